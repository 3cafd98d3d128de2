import PyProof.Rows.All
import HandS.ForMost
import HandS.ForExc
import HandS.Conv
import HandS.Wide
import HandS.TupAny
import HandS.IsInst
import HandS.CallSlots
import HandS.Flow
import HandS.WideBits
import KE.KTupSum
import HandS.Iter
import HandS.Style
import KE.KBits
import KE.BitLaws
import PySem.Challenge.RW_chiptrue_k01_whole_words_and_bits
set_option Elab.async false
set_option linter.all false
set_option maxRecDepth 100000
set_option maxHeartbeats 4000000
namespace Fx
abbrev St := L2.St
open PySem PySem.Spec PyProof.Rows L2

/-! ### data -/
inductive D where
  | non | bl (b : Bool) | int (i : Int) | str (x : List Nat) | tup (l : List D) | cst (l : List D) | loc (n : Nat)
inductive Cell where
  | lst (xs : List D) | dic (kvs : List (D × D)) | ins (c : String) (fs : List (String × D))
structure Ex where
  cls : String
  fs : List (String × D)
inductive Res (α : Type) where
  | ok (a : α) (S : List Cell) | exc (x : Ex) (S : List Cell) | stk
def Res.bind {α β : Type} (r : Res α) (f : α → List Cell → Res β) : Res β := match r with
  | .ok a S => f a S
  | .exc x S => .exc x S
  | .stk => .stk
abbrev Mu := List Addr
/-- a list that nobody changes: known to the object, or the module's own -/
def SqF (K : PySem.W.Frag) (H : Hp) (a : Addr) (xs : List V) : Prop :=
  (∃ o, H a = some (.frz o (.lst xs))) ∨
    ∃ (o : Obj) (its : Array Value) (n : Nat), K.lookup a = some o ∧ o.cls = .type "list" ∧ o.dict = none ∧ o.data = .seq its n ∧ its.size ≤ sizeLine ∧ Vals xs its.toList
theorem SqF.sq {K : PySem.W.Frag} {H : Hp} {a : Addr} {xs : List V} (h : SqF K H a xs) : SqL K H a xs := by
  rcases h with ⟨o, h⟩ | h
  · exact .inl (.inr ⟨o, h⟩)
  · exact .inr h

mutual
inductive RepV (K : PySem.W.Frag) (μ : Mu) (H : Hp) : D → V → Prop
  | non : RepV K μ H .non .non
  | bl (b : Bool) : RepV K μ H (.bl b) (.bl b)
  | int (i : Int) : RepV K μ H (.int i) (.int i)
  | str (x : List Nat) : RepV K μ H (.str x) (.str ⟨x.toArray⟩)
  | tup {a : Addr} {ds : List D} {vs : List V} : SqT K H a vs → RepL K μ H ds vs → RepV K μ H (.tup ds) (.ref a)
  | cst {a : Addr} {ds : List D} {vs : List V} : SqF K H a vs → RepL K μ H ds vs → RepV K μ H (.cst ds) (.ref a)
  | loc {n : Nat} {a : Addr} : μ[n]? = some a → RepV K μ H (.loc n) (.ref a)
inductive RepL (K : PySem.W.Frag) (μ : Mu) (H : Hp) : List D → List V → Prop
  | nil : RepL K μ H [] []
  | cons {d : D} {v : V} {ds : List D} {vs : List V} : RepV K μ H d v → RepL K μ H ds vs → RepL K μ H (d :: ds) (v :: vs)
end

/-- what a value's reading leans on stays -/
structure UpR (μ : Mu) (H : Hp) (μ' : Mu) (H' : Hp) : Prop where
  mu : ∀ (n : Nat) (a : Addr), μ[n]? = some a → μ'[n]? = some a
  tup : ∀ (b : Addr) (xs : List V), H b = some (.tup xs) → H' b = some (.tup xs)
  frz : ∀ (b : Addr) (o : Obj) (u : HO), H b = some (.frz o u) → H' b = some (.frz o u)
/-- the way from a heap to a later one: what is no cell stays as it is, new cells are new objects -/
structure Up (μ : Mu) (H : Hp) (μ' : Mu) (H' : Hp) : Prop extends UpR μ H μ' H' where
  rest : ∀ (b : Addr) (o : HO), H b = some o → b ∉ μ → H' b = some o
  fresh : ∀ b, b ∈ μ' → b ∈ μ ∨ H b = none
theorem UpR.refl {μ : Mu} {H : Hp} : UpR μ H μ H := ⟨fun _ _ h => h, fun _ _ h => h, fun _ _ _ h => h⟩
theorem Up.refl {μ : Mu} {H : Hp} : Up μ H μ H := ⟨.refl, fun _ _ h _ => h, fun _ h => .inl h⟩
theorem UpR.trans {μ μ1 μ2 : Mu} {H H1 H2 : Hp} (a : UpR μ H μ1 H1) (b : UpR μ1 H1 μ2 H2) : UpR μ H μ2 H2 :=
  ⟨fun n x h => b.mu n x (a.mu n x h), fun n x h => b.tup n x (a.tup n x h), fun n x u h => b.frz n x u (a.frz n x u h)⟩
theorem Up.back {μ μ1 : Mu} {H H1 : Hp} (a : Up μ H μ1 H1) {b : Addr} (h : H1 b = none) : b ∈ μ ∨ H b = none := by
  cases q : H b with
  | none => exact .inr rfl
  | some o =>
    by_cases hb : b ∈ μ
    · exact .inl hb
    · rw [a.rest b o q hb] at h; cases h
theorem Up.off {μ μ1 : Mu} {H H1 : Hp} (a : Up μ H μ1 H1) {b : Addr} {o : HO} (h : H b = some o) (hb : b ∉ μ) : b ∉ μ1 := fun hm => by
  rcases a.fresh b hm with z | z
  · exact hb z
  · rw [h] at z; cases z
theorem Up.trans {μ μ1 μ2 : Mu} {H H1 H2 : Hp} (a : Up μ H μ1 H1) (b : Up μ1 H1 μ2 H2) : Up μ H μ2 H2 where
  toUpR := a.toUpR.trans b.toUpR
  rest := fun x o h hx => b.rest x o (a.rest x o h hx) (a.off h hx)
  fresh := fun x hx => (b.fresh x hx).elim (a.fresh x) a.back
theorem UpR.sqT {K : PySem.W.Frag} {μ μ' : Mu} {H H' : Hp} {a : Addr} {xs : List V} (u : UpR μ H μ' H') (h : SqT K H a xs) : SqT K H' a xs := by
  rcases h with (h | ⟨o, h⟩) | h
  · exact .inl (.inl (u.tup _ _ h))
  · exact .inl (.inr ⟨o, u.frz _ _ _ h⟩)
  · exact .inr h
theorem UpR.sqF {K : PySem.W.Frag} {μ μ' : Mu} {H H' : Hp} {a : Addr} {xs : List V} (u : UpR μ H μ' H') (h : SqF K H a xs) : SqF K H' a xs := by
  rcases h with ⟨o, h⟩ | h
  · exact .inl ⟨o, u.frz _ _ _ h⟩
  · exact .inr h
mutual
theorem RepV.upR {K : PySem.W.Frag} {μ μ' : Mu} {H H' : Hp} (u : UpR μ H μ' H') : ∀ {d : D} {v : V}, RepV K μ H d v → RepV K μ' H' d v
  | _, _, .non => .non
  | _, _, .bl b => .bl b
  | _, _, .int i => .int i
  | _, _, .str x => .str x
  | _, _, .tup h r => .tup (u.sqT h) (RepL.upR u r)
  | _, _, .cst h r => .cst (u.sqF h) (RepL.upR u r)
  | _, _, .loc h => .loc (u.mu _ _ h)
theorem RepL.upR {K : PySem.W.Frag} {μ μ' : Mu} {H H' : Hp} (u : UpR μ H μ' H') : ∀ {ds : List D} {vs : List V}, RepL K μ H ds vs → RepL K μ' H' ds vs
  | _, _, .nil => .nil
  | _, _, .cons h r => .cons (RepV.upR u h) (RepL.upR u r)
end
theorem RepV.up {K : PySem.W.Frag} {μ μ' : Mu} {H H' : Hp} {d : D} {v : V} (h : RepV K μ H d v) (u : Up μ H μ' H') : RepV K μ' H' d v := h.upR u.toUpR
theorem RepL.up {K : PySem.W.Frag} {μ μ' : Mu} {H H' : Hp} {ds : List D} {vs : List V} (h : RepL K μ H ds vs) (u : Up μ H μ' H') : RepL K μ' H' ds vs := h.upR u.toUpR
section
variable {K : PySem.W.Frag} {μ μ' : Mu} {H H' : Hp}
theorem RepL.length : ∀ {ds : List D} {vs : List V}, RepL K μ H ds vs → ds.length = vs.length
  | _, _, .nil => rfl
  | _, _, .cons _ r => by simp [RepL.length r]
theorem RepL.get : ∀ {ds : List D} {vs : List V} {i : Nat} {v : V}, RepL K μ H ds vs → vs[i]? = some v → ∃ d, ds[i]? = some d ∧ RepV K μ H d v
  | _, _, _, _, .nil, e => by simp at e
  | _, _, 0, _, .cons h _, e => by simp at e; subst e; exact ⟨_, rfl, h⟩
  | _, _, i + 1, _, .cons _ r, e => by
    obtain ⟨d, e1, e2⟩ := RepL.get (i := i) r (by simpa using e)
    exact ⟨d, by simpa using e1, e2⟩
theorem RepL.getD : ∀ {ds : List D} {vs : List V} {i : Nat} {d : D}, RepL K μ H ds vs → ds[i]? = some d → ∃ v, vs[i]? = some v ∧ RepV K μ H d v
  | _, _, _, _, .nil, e => by simp at e
  | _, _, 0, _, .cons h _, e => by simp at e; subst e; exact ⟨_, rfl, h⟩
  | _, _, i + 1, _, .cons _ r, e => by
    obtain ⟨d, e1, e2⟩ := RepL.getD (i := i) r (by simpa using e)
    exact ⟨d, by simpa using e1, e2⟩
theorem RepL.append : ∀ {ds es : List D} {vs ws : List V}, RepL K μ H ds vs → RepL K μ H es ws → RepL K μ H (ds ++ es) (vs ++ ws)
  | _, _, _, _, .nil, q => q
  | _, _, _, _, .cons h r, q => .cons h (RepL.append r q)
theorem RepL.snoc {ds : List D} {vs : List V} {d : D} {v : V} (r : RepL K μ H ds vs) (h : RepV K μ H d v) : RepL K μ H (ds ++ [d]) (vs ++ [v]) := r.append (.cons h .nil)
theorem RepL.drop : ∀ {ds : List D} {vs : List V} (n : Nat), RepL K μ H ds vs → RepL K μ H (ds.drop n) (vs.drop n)
  | _, _, 0, r => r
  | _, _, _ + 1, .nil => .nil
  | _, _, n + 1, .cons _ r => RepL.drop n r
theorem RepL.take : ∀ {ds : List D} {vs : List V} (n : Nat), RepL K μ H ds vs → RepL K μ H (ds.take n) (vs.take n)
  | _, _, 0, _ => .nil
  | _, _, _ + 1, .nil => .nil
  | _, _, n + 1, .cons h r => .cons h (RepL.take n r)
theorem RepL.set {d : D} {v : V} (h : RepV K μ H d v) : ∀ {ds : List D} {vs : List V} (i : Nat), RepL K μ H ds vs → RepL K μ H (ds.set i d) (vs.set i v)
  | _, _, _, .nil => .nil
  | _, _, 0, .cons _ r => .cons h r
  | _, _, i + 1, .cons q r => .cons q (RepL.set h i r)
end

/-! ### cells, the store -/
def CellOk (mg : Str → Option Value) (K : PySem.W.Frag) (μ : Mu) (H : Hp) (a : Addr) : Cell → Prop
  | .lst xs => ∃ vs, H a = some (.lst vs) ∧ RepL K μ H xs vs
  | .dic _ => False
  | .ins _ _ => False
structure StoRep (mg : Str → Option Value) (K : PySem.W.Frag) (μ : Mu) (S : List Cell) (H : Hp) : Prop where
  nd : μ.Nodup
  len : μ.length = S.length
  at_ : ∀ (n : Nat) (c : Cell) (a : Addr), S[n]? = some c → μ[n]? = some a → CellOk mg K μ H a c
abbrev Sl := List (Option D)
structure SlRep (K : PySem.W.Frag) (μ : Mu) (H : Hp) (sd : Sl) (σ : St) : Prop where
  len : sd.length = σ.length
  at_ : ∀ (i : Nat) (d : D), sd[i]? = some (some d) → ∃ v, σ[i]? = some (some v) ∧ RepV K μ H d v
section
variable {mg : Str → Option Value} {K : PySem.W.Frag} {μ μ' : Mu} {S : List Cell} {H H' : Hp} {a p : Addr} {sd : Sl} {σ : St}
theorem CellOk.some {c : Cell} (h : CellOk mg K μ H a c) : ∃ o, H a = some o := by
  cases c with
  | lst xs => obtain ⟨vs, h, _⟩ := h; exact ⟨_, h⟩
  | dic _ => exact h.elim
  | ins _ _ => exact h.elim
theorem StoRep.here (h : StoRep mg K μ S H) {n : Nat} (e : μ[n]? = some a) : ∃ c, S[n]? = some c ∧ CellOk mg K μ H a c := by
  have hl : n < S.length := by
    have := (List.getElem?_eq_some_iff.mp e).1
    rw [h.len] at this; exact this
  exact ⟨S[n], by simp [hl], h.at_ n _ a (by simp [hl]) e⟩
theorem StoRep.new (h : StoRep mg K μ S H) (hp : H p = none) : p ∉ μ := fun hm => by
  obtain ⟨n, hn⟩ := List.mem_iff_getElem?.mp hm
  obtain ⟨c, _, hc⟩ := h.here hn
  obtain ⟨o, e⟩ := hc.some
  rw [hp] at e; cases e
theorem upR_tmp {o : HO} (hp : H p = none) : UpR μ H μ (upd H p o) where
  mu := fun n a e => e
  tup := fun b xs e => by rw [upd_ne (ne_of_none e hp)]; exact e
  frz := fun b x u e => by rw [upd_ne (ne_of_none e hp)]; exact e
theorem up_tmp {o : HO} (hp : H p = none) : Up μ H μ (upd H p o) where
  toUpR := upR_tmp hp
  rest := fun b x e _ => by rw [upd_ne (ne_of_none e hp)]; exact e
  fresh := fun b h => .inl h
/-- a new object becomes a cell -/
theorem Up.adopt (u : Up μ H μ' H') (hp : H p = none) : Up μ H (μ' ++ [p]) H' where
  mu := fun n a e => by
    have e' := u.mu n a e
    rw [List.getElem?_append_left (List.getElem?_eq_some_iff.mp e').1]; exact e'
  tup := u.tup
  frz := u.frz
  rest := u.rest
  fresh := fun b h => by
    rcases List.mem_append.mp h with h | h
    · exact u.fresh b h
    · rw [List.mem_singleton] at h; subst h; exact .inr hp
theorem up_new {o : HO} (hp : H p = none) : Up μ H (μ ++ [p]) (upd H p o) := (up_tmp hp).adopt hp
/-- a cell is not touched: its own address and what it holds stay -/
theorem CellOk.keep {c : Cell} (h : CellOk mg K μ H a c) (u : UpR μ H μ' H') (e : H' a = H a) : CellOk mg K μ' H' a c := by
  cases c with
  | lst xs => obtain ⟨vs, h, r⟩ := h; exact ⟨vs, by rw [e]; exact h, r.upR u⟩
  | dic _ => exact h.elim
  | ins _ _ => exact h.elim
/-- a thing that is not in the store comes up -/
theorem StoRep.tmp {o : HO} (h : StoRep mg K μ S H) (hp : H p = none) : StoRep mg K μ S (upd H p o) where
  nd := h.nd
  len := h.len
  at_ := fun n c a e1 e2 => (h.at_ n c a e1 e2).keep (upR_tmp hp) (upd_ne fun z => h.new hp (by rw [← z]; exact List.mem_of_getElem? e2))
theorem StoRep.alloc {o : HO} {c : Cell} (h : StoRep mg K μ S H) (hp : H p = none) (hc : CellOk mg K (μ ++ [p]) (upd H p o) p c) : StoRep mg K (μ ++ [p]) (S ++ [c]) (upd H p o) where
  nd := by
    rw [List.nodup_append]
    refine ⟨h.nd, by simp, fun x hx y hy e => ?_⟩
    rw [List.mem_singleton] at hy
    subst hy; subst e
    exact h.new hp hx
  len := by simp [h.len]
  at_ := fun n c' a e1 e2 => by
    by_cases hn : n < S.length
    · have e1' : S[n]? = some c' := by rw [← e1, List.getElem?_append_left hn]
      have e2' : μ[n]? = some a := by rw [← e2, List.getElem?_append_left (by rw [h.len]; exact hn)]
      exact (h.at_ n c' a e1' e2').keep (up_new hp).toUpR (upd_ne fun z => h.new hp (by rw [← z]; exact List.mem_of_getElem? e2'))
    · have hn' : n = S.length := by
        have := (List.getElem?_eq_some_iff.mp e1).1
        simp at this; omega
      subst hn'
      have z1 : c = c' := by simpa using e1
      have z2 : p = a := by
        have := h.len
        rw [← this] at e2; simpa using e2
      subst z1; subst z2
      exact hc
theorem up_put {o : HO} {vs : List V} (hm : a ∈ μ) (e : H a = some (.lst vs)) : Up μ H μ (upd H a o) where
  mu := fun n a e => e
  tup := fun b xs q => by rw [upd_ne (ne_of q e (by intro z; cases z))]; exact q
  frz := fun b x u q => by rw [upd_ne (ne_of q e (by intro z; cases z))]; exact q
  rest := fun b x q hb => by rw [upd_ne (fun z => hb (by rw [z]; exact hm))]; exact q
  fresh := fun b h => .inl h
/-- a list that is no cell is changed -/
theorem upR_other {o : HO} {vs : List V} (e : H a = some (.lst vs)) : UpR μ H μ (upd H a o) where
  mu := fun n a e => e
  tup := fun b xs q => by rw [upd_ne (ne_of q e (by intro z; cases z))]; exact q
  frz := fun b x u q => by rw [upd_ne (ne_of q e (by intro z; cases z))]; exact q
theorem Up.other {o : HO} {vs : List V} (u : Up μ H μ' H') (h0 : H a = none) (e : H' a = some (.lst vs)) : Up μ H μ' (upd H' a o) where
  toUpR := u.toUpR.trans (upR_other e)
  rest := fun b x q hb => by rw [upd_ne (ne_of_none q h0)]; exact u.rest b x q hb
  fresh := u.fresh
theorem StoRep.other {o : HO} {vs : List V} (h : StoRep mg K μ S H) (hm : a ∉ μ) (e : H a = some (.lst vs)) : StoRep mg K μ S (upd H a o) where
  nd := h.nd
  len := h.len
  at_ := fun n c b e1 e2 => (h.at_ n c b e1 e2).keep (upR_other e) (upd_ne fun z => hm (by rw [← z]; exact List.mem_of_getElem? e2))
theorem StoRep.put {vs vs' : List V} {ds : List D} {n : Nat} (h : StoRep mg K μ S H) (e : μ[n]? = some a) (ha : H a = some (.lst vs)) (r : RepL K μ H ds vs') : StoRep mg K μ (S.set n (.lst ds)) (upd H a (.lst vs')) where
  nd := h.nd
  len := by simp [h.len]
  at_ := fun m c b e1 e2 => by
    have u : Up μ H μ (upd H a (.lst vs')) := up_put (List.mem_of_getElem? e) ha
    have hl : n < S.length := by
      have := (List.getElem?_eq_some_iff.mp e).1
      rw [h.len] at this; exact this
    by_cases hm : m = n
    · subst hm
      rw [e] at e2; cases e2
      rw [List.getElem?_set_self hl] at e1; cases e1
      exact ⟨vs', upd_same, r.up u⟩
    · rw [List.getElem?_set_ne (Ne.symm hm)] at e1
      refine (h.at_ m c b e1 e2).keep u.toUpR (upd_ne fun z => ?_)
      subst z
      have h1 := (List.getElem?_eq_some_iff.mp e)
      have h2 := (List.getElem?_eq_some_iff.mp e2)
      obtain ⟨l1, g1⟩ := h1
      obtain ⟨l2, g2⟩ := h2
      exact hm ((List.getElem_inj h.nd).mp (g2.trans g1.symm))
theorem SlRep.upR (h : SlRep K μ H sd σ) (u : UpR μ H μ' H') : SlRep K μ' H' sd σ := ⟨h.len, fun i d e => let ⟨v, e1, r⟩ := h.at_ i d e; ⟨v, e1, r.upR u⟩⟩
theorem SlRep.up (h : SlRep K μ H sd σ) (u : Up μ H μ' H') : SlRep K μ' H' sd σ := ⟨h.len, fun i d e => let ⟨v, e1, r⟩ := h.at_ i d e; ⟨v, e1, r.up u⟩⟩
theorem SlRep.set {i : Nat} {d : D} {v : V} (h : SlRep K μ H sd σ) (r : RepV K μ H d v) : SlRep K μ H (sd.set i (some d)) (σ.set i (some v)) where
  len := by simp [h.len]
  at_ := fun j e q => by
    by_cases hj : j = i
    · subst hj
      have hl : j < sd.length := by
        have := (List.getElem?_eq_some_iff.mp q).1
        simpa using this
      rw [List.getElem?_set_self hl] at q
      cases q
      exact ⟨v, List.getElem?_set_self (by rw [← h.len]; exact hl), r⟩
    · rw [List.getElem?_set_ne (Ne.symm hj)] at q ⊢
      exact h.at_ j e q
theorem SlRep.none {i : Nat} (h : SlRep K μ H sd σ) : SlRep K μ H (sd.set i none) (σ.set i none) where
  len := by simp [h.len]
  at_ := fun j e q => by
    by_cases hj : j = i
    · subst hj
      have hl : j < sd.length := by
        have := (List.getElem?_eq_some_iff.mp q).1
        simpa using this
      rw [List.getElem?_set_self hl] at q
      cases q
    · rw [List.getElem?_set_ne (Ne.symm hj)] at q ⊢
      exact h.at_ j e q
end
end Fx

namespace Fx
open PySem PySem.Spec PyProof.Rows L2

/-! ### readings of expressions, by functions over the data -/
abbrev ME := Sl → List Cell → Res D
abbrev MA := Sl → List Cell → Res (List D)
abbrev MT := Sl → List Cell → Res Bool

/-- how an exception lies in the heap -/
def ExRep (mg : Str → Option Value) (K : PySem.W.Frag) (μ : Mu) (H : Hp) (x : Ex) (cls : Value) (dx : Option Addr) : Prop :=
  ∃ C d fs, cls = .ref C ∧ dx = some d ∧ mg (Str.ofString x.cls) = some (.ref C) ∧ H d = some (.xd fs) ∧ fs.map (·.1) = x.fs.map (fun p => Str.ofString p.1) ∧ RepL K μ H (x.fs.map (·.2)) (fs.map (·.2))

section
variable (mg : Str → Option Value) (K : PySem.W.Frag)
/-- what is wanted behind a value, behind an exception -/
def FinA {α : Type} {β : Type} (Rep : Mu → Hp → α → β → Prop) (E : XK) (μ : Mu) (H : Hp) (r : Res α) (Q : β → Hp → Prop) : Prop :=
  match r with
  | .ok d S' => ∀ v H' μ', Up μ H μ' H' → StoRep mg K μ' S' H' → Rep μ' H' d v → Q v H'
  | .exc x S' => ∀ cls dx H' μ', Up μ H μ' H' → StoRep mg K μ' S' H' → ExRep mg K μ' H' x cls dx → E cls dx H'
  | .stk => False
/-- .. with the store and the map told to what follows -/
def FinK {α : Type} {β : Type} (Rep : Mu → Hp → α → β → Prop) (E : XK) (μ : Mu) (H : Hp) (r : Res α) (Q : α → List Cell → Mu → β → Hp → Prop) : Prop :=
  match r with
  | .ok d S' => ∀ v H' μ', Up μ H μ' H' → StoRep mg K μ' S' H' → Rep μ' H' d v → Q d S' μ' v H'
  | .exc x S' => ∀ cls dx H' μ', Up μ H μ' H' → StoRep mg K μ' S' H' → ExRep mg K μ' H' x cls dx → E cls dx H'
  | .stk => False
end
section
variable {mg : Str → Option Value} {K : PySem.W.Frag} {E : XK} {μ μ' : Mu} {H H' : Hp}
variable {α β γ δ : Type} {Rep : Mu → Hp → α → β → Prop} {Rep' : Mu → Hp → γ → δ → Prop}
theorem FinA.up {r : Res α} {Q : β → Hp → Prop} (u : Up μ H μ' H') (h : FinA mg K Rep E μ H r Q) : FinA mg K Rep E μ' H' r Q := by
  cases r with
  | ok d S => exact fun v H2 μ2 u2 => h v H2 μ2 (u.trans u2)
  | exc x S => exact fun c dx H2 μ2 u2 => h c dx H2 μ2 (u.trans u2)
  | stk => exact h
/-- one behind another -/
theorem FinA.bind {r : Res α} {f : α → List Cell → Res γ} {Q : δ → Hp → Prop} (h : FinA mg K Rep' E μ H (r.bind f) Q) :
    FinK mg K Rep E μ H r fun d S' μ' v H' => FinA mg K Rep' E μ' H' (f d S') Q := by
  cases r with
  | ok d S =>
    intro v H2 μ2 u2 s2 r2
    exact FinA.up u2 h
  | exc x S => exact h
  | stk => exact h
end

abbrev RepB (_ : Mu) (_ : Hp) (a b : Bool) : Prop := a = b
def tE (X : Cx) (W : WX) (m : ME) : TE := fun σ H Q => ∃ μ S sd, StoRep X.mg X.K μ S H ∧ SlRep X.K μ H sd σ ∧ FinA X.mg X.K (RepV X.K) (fun c d H' => W c d σ H') μ H (m sd S) Q
def tA (X : Cx) (W : WX) (m : MA) : TA := fun σ H Q => ∃ μ S sd, StoRep X.mg X.K μ S H ∧ SlRep X.K μ H sd σ ∧ FinA X.mg X.K (RepL X.K) (fun c d H' => W c d σ H') μ H (m sd S) Q
def tT (X : Cx) (W : WX) (m : MT) : TT := fun σ H Q => ∃ μ S sd, StoRep X.mg X.K μ S H ∧ SlRep X.K μ H sd σ ∧ FinA X.mg X.K RepB (fun c d H' => W c d σ H') μ H (m sd S) Q
abbrev SE (X : Cx) (W : WX) (e : Expr) (m : ME) : Prop := PE X e (tE X W m)
abbrev SA (X : Cx) (W : WX) (es : List Expr) (m : MA) : Prop := PA X es (tA X W m)
abbrev ST (X : Cx) (W : WX) (e : Expr) (m : MT) : Prop := PT X e (tT X W m)

theorem _root_.L2.PE.impF {X : Cx} {e : Expr} {t t' : TE} (h : PE X e t) (i : ∀ σ H Q, t' σ H Q → t σ H Q) : PE X e t' := ⟨fun pins s σ H Q I q => h.run pins s σ H Q I (i σ H Q q)⟩
theorem _root_.L2.PA.impF {X : Cx} {e : List Expr} {t t' : TA} (h : PA X e t) (i : ∀ σ H Q, t' σ H Q → t σ H Q) : PA X e t' := ⟨fun pos pins s σ H Q I q => h.run pos pins s σ H Q I (i σ H Q q)⟩
theorem _root_.L2.PT.impF {X : Cx} {e : Expr} {t t' : TT} (h : PT X e t) (i : ∀ σ H Q, t' σ H Q → t σ H Q) : PT X e t' := ⟨fun pins s σ H Q I q => h.run pins s σ H Q I (i σ H Q q)⟩
theorem _root_.L2.PS.impF {X : Cx} {e : Stmt} {t t' : TS} (h : PS X e t) (i : ∀ D σ H, t' D σ H → t D σ H) : PS X e t' := ⟨fun pins s σ H Q I q => h.run pins s σ H Q I (i Q σ H q)⟩
theorem _root_.L2.PSs.impF {X : Cx} {e : List Stmt} {t t' : TS} (h : PSs X e t) (i : ∀ D σ H, t' D σ H → t D σ H) : PSs X e t' := ⟨fun pins s σ H Q I q => h.run pins s σ H Q I (i Q σ H q)⟩

section
variable {X : Cx} {W : WX}
/-- a part, then what follows it: the way through tE -/
theorem tE_bind {α δ : Type} {Rep' : Mu → Hp → α → δ → Prop} {m : ME} {f : D → List Cell → Res α} {σ : St} {H : Hp} {μ : Mu} {S : List Cell} {sd : Sl} {Q : δ → Hp → Prop} {Q' : VK} (hs : StoRep X.mg X.K μ S H) (hl : SlRep X.K μ H sd σ)
    (h : FinA X.mg X.K Rep' (fun c d H' => W c d σ H') μ H ((m sd S).bind f) Q)
    (k : ∀ d S' μ' v H', StoRep X.mg X.K μ' S' H' → SlRep X.K μ' H' sd σ → Up μ H μ' H' → RepV X.K μ' H' d v → FinA X.mg X.K Rep' (fun c d H' => W c d σ H') μ' H' (f d S') Q → Q' v H') : tE X W m σ H Q' := by
  refine ⟨μ, S, sd, hs, hl, ?_⟩
  have h' := FinA.bind (Rep := RepV X.K) h
  generalize hr : m sd S = r at h h'
  cases r with
  | ok d S' => exact fun v H' μ' u s r => k d S' μ' v H' s (hl.up u) u r (h' v H' μ' u s r)
  | exc x S' => exact h'
  | stk => exact h'
theorem tA_bind {α δ : Type} {Rep' : Mu → Hp → α → δ → Prop} {m : MA} {f : List D → List Cell → Res α} {σ : St} {H : Hp} {μ : Mu} {S : List Cell} {sd : Sl} {Q : δ → Hp → Prop} {Q' : List V → Hp → Prop} (hs : StoRep X.mg X.K μ S H) (hl : SlRep X.K μ H sd σ)
    (h : FinA X.mg X.K Rep' (fun c d H' => W c d σ H') μ H ((m sd S).bind f) Q)
    (k : ∀ d S' μ' v H', StoRep X.mg X.K μ' S' H' → SlRep X.K μ' H' sd σ → Up μ H μ' H' → RepL X.K μ' H' d v → FinA X.mg X.K Rep' (fun c d H' => W c d σ H') μ' H' (f d S') Q → Q' v H') : tA X W m σ H Q' := by
  refine ⟨μ, S, sd, hs, hl, ?_⟩
  have h' := FinA.bind (Rep := RepL X.K) h
  generalize hr : m sd S = r at h h'
  cases r with
  | ok d S' => exact fun v H' μ' u s r => k d S' μ' v H' s (hl.up u) u r (h' v H' μ' u s r)
  | exc x S' => exact h'
  | stk => exact h'
theorem tT_bind {α δ : Type} {Rep' : Mu → Hp → α → δ → Prop} {m : MT} {f : Bool → List Cell → Res α} {σ : St} {H : Hp} {μ : Mu} {S : List Cell} {sd : Sl} {Q : δ → Hp → Prop} {Q' : Bool → Hp → Prop} (hs : StoRep X.mg X.K μ S H) (hl : SlRep X.K μ H sd σ)
    (h : FinA X.mg X.K Rep' (fun c d H' => W c d σ H') μ H ((m sd S).bind f) Q)
    (k : ∀ d S' μ' H', StoRep X.mg X.K μ' S' H' → SlRep X.K μ' H' sd σ → Up μ H μ' H' → FinA X.mg X.K Rep' (fun c d H' => W c d σ H') μ' H' (f d S') Q → Q' d H') : tT X W m σ H Q' := by
  refine ⟨μ, S, sd, hs, hl, ?_⟩
  have h' := FinA.bind (Rep := RepB) h
  generalize hr : m sd S = r at h h'
  cases r with
  | ok d S' => exact fun v H' μ' u s r => (show d = v from r) ▸ k d S' μ' H' s (hl.up u) u (h' v H' μ' u s r)
  | exc x S' => exact h'
  | stk => exact h'

/-! ### constants, names -/
def mC (d : D) : ME := fun _ S => .ok d S
def mVar (i : Nat) : ME := fun sd S => match sd[i]? with | some (some d) => .ok d S | _ => .stk
theorem se_var (i : Nat) {x : Str} {pos : Pos} (hN : X.N[i]? = some x := by rfl) (hv : Vis X.env.scope x := by first | exact Or.inl rfl | exact Or.inr (Or.inl rfl) | exact Or.inr (Or.inr rfl)) (hd : (x == ("__debug__" : Str)) = false := by decide)
    (hcd : (x == ("__classdict__" : Str)) = false := by decide) : SE X W (.Name x pos) (mVar i) := by
  refine (pe_var hN hv hd hcd).impF fun σ H Q ⟨μ, S, sd, hs, hl, h⟩ => ?_
  unfold mVar at h
  split at h
  · rename_i d e
    obtain ⟨v, e1, r⟩ := hl.at_ i d e
    exact ⟨v, e1, h v H μ .refl hs r⟩
  · exact h.elim
theorem se_const {e : Expr} {v : V} {d : D} (h : PE X e (tC v)) (r : ∀ μ H, RepV X.K μ H d v) : SE X W e (mC d) := h.impF fun σ H Q ⟨μ, S, sd, hs, hl, h⟩ => h v H μ .refl hs (r μ H)
theorem se_int {i j pos} : SE X W (.Constant (.int i) j pos) (mC (.int i)) := se_const pe_int fun _ _ => .int i
theorem se_bl {b j pos} : SE X W (.Constant (.bool b) j pos) (mC (.bl b)) := se_const pe_bl fun _ _ => .bl b
theorem se_non {j pos} : SE X W (.Constant .none j pos) (mC .non) := se_const pe_non fun _ _ => .non
theorem se_str {x j pos} : SE X W (.Constant (.str x) j pos) (mC (.str x.cps.toList)) := se_const pe_str fun μ H => by
  have e : x = ⟨x.cps.toList.toArray⟩ := by cases x; simp
  have := RepV.str (K := X.K) (μ := μ) (H := H) x.cps.toList
  rwa [← e] at this
/-- a global constant of the module -/
theorem se_glob {x : Str} {v : V} {d : D} {u : Value} {pos : Pos} (hg : Gl X x) (hm : X.mg x = some u) (r : RelV v u) (rd : ∀ μ H, RepV X.K μ H d v) (hd : (x == ("__debug__" : Str)) = false := by decide) : SE X W (.Name x pos) (mC d) := se_const (pe_glob hg hm r hd) rd

/-! ### argument lists, displays -/
def mNil : MA := fun _ S => .ok [] S
def mCons (m : ME) (r : MA) : MA := fun sd S => (m sd S).bind fun d S1 => (r sd S1).bind fun ds S2 => .ok (d :: ds) S2
theorem sa_nil : SA X W [] mNil := pa_nil.impF fun σ H Q ⟨μ, S, sd, hs, hl, h⟩ => h [] H μ .refl hs .nil
theorem sa_cons {e : Expr} {es : List Expr} {m : ME} {r : MA} (he : SE X W e m) (hr : SA X W es r) (hst : starEach (e :: es) X.env = (false, eval e X.env) :: starEach es X.env := by rfl) : SA X W (e :: es) (mCons m r) :=
  (pa_cons he hr hst).impF fun σ H Q ⟨μ, S, sd, hs, hl, h⟩ => tE_bind hs hl h fun d S1 μ1 v H1 hs1 hl1 u1 r1 h1 => tA_bind hs1 hl1 h1 fun ds S2 μ2 vs H2 hs2 hl2 u2 r2 h2 => h2 (v :: vs) H2 μ2 .refl hs2 (.cons (r1.up u2) r2)
def mTup (m : MA) : ME := fun sd S => (m sd S).bind fun ds S1 => if ds.length ≤ sizeLine then .ok (.tup ds) S1 else .stk
def mLst (m : MA) : ME := fun sd S => (m sd S).bind fun ds S1 => if ds.length ≤ sizeLine then .ok (.loc S1.length) (S1 ++ [.lst ds]) else .stk
theorem se_tup {es : List Expr} {m : MA} {x1 pos} (h : SA X W es m) : SE X W (.Tuple es x1 pos) (mTup m) :=
  (pe_tup h).impF fun σ H Q ⟨μ, S, sd, hs, hl, h⟩ => tA_bind hs hl h fun ds S1 μ1 vs H1 hs1 hl1 u1 r1 h1 => by
    split at h1
    · rename_i hz
      refine ⟨by rw [← r1.length]; exact hz, fun p hp => ?_⟩
      exact h1 (.ref p) _ μ1 (up_tmp hp) (hs1.tmp hp) (.tup (SqT.of upd_same) (r1.up (up_tmp hp)))
    · exact h1.elim
theorem se_lst {es : List Expr} {m : MA} {pos} (h : SA X W es m) : SE X W (.List es pos) (mLst m) :=
  (pe_lst h).impF fun σ H Q ⟨μ, S, sd, hs, hl, h⟩ => tA_bind hs hl h fun ds S1 μ1 vs H1 hs1 hl1 u1 r1 h1 => by
    split at h1
    · rename_i hz
      refine ⟨by rw [← r1.length]; exact hz, fun p hp => ?_⟩
      exact h1 (.ref p) _ (μ1 ++ [p]) (up_new hp) (hs1.alloc hp ⟨vs, upd_same, r1.up (up_new hp)⟩) (.loc (by rw [← hs1.len]; simp))
    · exact h1.elim

/-! ### operators -/
abbrev O2 := D → D → List Cell → Res D
/-- an operation on two values, by a function over the data (it raises nothing of its own) -/
def OpD (X : Cx) (W : WX) (f : Value → Value → Sem Value) (o : O2) : Prop :=
  ∃ r : R2, OpR X f r ∧ ∀ σ H μ S d e x y Q, StoRep X.mg X.K μ S H → RepV X.K μ H d x → RepV X.K μ H e y → FinA X.mg X.K (RepV X.K) (fun c d H' => W c d σ H') μ H (o d e S) Q → r x y H Q
def mBin (o : O2) (a b : ME) : ME := fun sd S => (a sd S).bind fun d S1 => (b sd S1).bind fun e S2 => o d e S2
theorem bin_of {a b : Expr} {ma mb : ME} {o : O2} {r : R2} (ha : SE X W a ma) (hb : SE X W b mb)
    (ho : ∀ σ H μ S d e x y Q, StoRep X.mg X.K μ S H → RepV X.K μ H d x → RepV X.K μ H e y → FinA X.mg X.K (RepV X.K) (fun c d H' => W c d σ H') μ H (o d e S) Q → r x y H Q) (σ : St) (H : Hp) (Q : VK) (h : tE X W (mBin o ma mb) σ H Q) :
    tOp r (tE X W ma) (tE X W mb) σ H Q := by
  obtain ⟨μ, S, sd, hs, hl, h⟩ := h
  exact tE_bind hs hl h fun d S1 μ1 v H1 hs1 hl1 u1 r1 h1 => tE_bind hs1 hl1 h1 fun e S2 μ2 w H2 hs2 hl2 u2 r2 h2 => ho σ H2 μ2 S2 d e v w Q hs2 (r1.up u2) r2 h2
theorem se_bin {op : Operator} {o : O2} {a b : Expr} {ma mb : ME} {pos : Pos} (ho : OpD X W (binaryOp op) o) (ha : SE X W a ma) (hb : SE X W b mb) : SE X W (.BinOp a op b pos) (mBin o ma mb) := by
  obtain ⟨r, h1, h2⟩ := ho
  exact (pe_op h1 ha hb).impF (bin_of ha hb h2)
theorem se_cmp {op : CmpOp} {o : O2} {a b : Expr} {ma mb : ME} {pos : Pos} (ho : OpD X W (compareOp op) o) (ha : SE X W a ma) (hb : SE X W b mb) (hm : behindInMarks op b = false := by first | exact nomark _ | rfl) : SE X W (.Compare a [op] [b] pos) (mBin o ma mb) := by
  obtain ⟨r, h1, h2⟩ := ho
  exact (pe_cmpR h1 ha hb hm).impF (bin_of ha hb h2)
/-- ints in, a value out, under a condition -/
def oInt (c : Int → Int → Bool) (g : Int → Int → D) : O2 := fun d e S => match d, e with
  | .int i, .int j => if c i j then .ok (g i j) S else .stk
  | _, _ => .stk
theorem RepV.inv_int {K : PySem.W.Frag} {μ : Mu} {H : Hp} {i : Int} {x : V} (h : RepV K μ H (.int i) x) : x = .int i := by cases h; rfl
theorem RepV.inv_bl {K : PySem.W.Frag} {μ : Mu} {H : Hp} {i : Bool} {x : V} (h : RepV K μ H (.bl i) x) : x = .bl i := by cases h; rfl
theorem RepV.inv_non {K : PySem.W.Frag} {μ : Mu} {H : Hp} {x : V} (h : RepV K μ H .non x) : x = .non := by cases h; rfl
theorem RepV.inv_str {K : PySem.W.Frag} {μ : Mu} {H : Hp} {i : List Nat} {x : V} (h : RepV K μ H (.str i) x) : x = .str ⟨i.toArray⟩ := by cases h; rfl
theorem od_int {f : Value → Value → Sem Value} {C : Int → Int → Prop} {c : Int → Int → Bool} {g : Int → Int → V} {gd : Int → Int → D} (h : OpR X f (rI C g)) (hc : ∀ i j, c i j = true → C i j) (hg : ∀ i j μ H, RepV X.K μ H (gd i j) (g i j)) : OpD X W f (oInt c gd) := by
  refine ⟨_, h, fun σ H μ S d e x y Q hs rx ry h => ?_⟩
  unfold oInt at h
  split at h
  · split at h
    · rename_i i j hcc
      exact ⟨i, j, rx.inv_int, ry.inv_int, hc i j hcc, h _ H μ .refl hs (hg i j μ H)⟩
    · exact h.elim
  · exact h.elim
theorem od_int0 {f : Value → Value → Sem Value} {g : Int → Int → V} {gd : Int → Int → D} (h : OpR X f (rI0 g)) (hg : ∀ i j μ H, RepV X.K μ H (gd i j) (g i j)) : OpD X W f (oInt (fun _ _ => true) gd) := by
  refine ⟨_, h, fun σ H μ S d e x y Q hs rx ry h => ?_⟩
  unfold oInt at h
  split at h
  · rename_i i j
    rw [if_pos rfl] at h
    exact ⟨i, j, rx.inv_int, ry.inv_int, h _ H μ .refl hs (hg i j μ H)⟩
  · exact h.elim
end
end Fx

namespace Fx
open PySem PySem.Spec PyProof.Rows L2

/-! ### statements -/
inductive ResS where
  | nx (sd : Sl) (S : List Cell) | rt (d : D) (S : List Cell) | bk (sd : Sl) (S : List Cell) | ct (sd : Sl) (S : List Cell) | exc (x : Ex) (sd : Sl) (S : List Cell) | stk
abbrev MS := Sl → List Cell → ResS
def FinS (mg : Str → Option Value) (K : PySem.W.Frag) (W : WX) (μ : Mu) (H : Hp) (r : ResS) (Q : Ends) : Prop :=
  match r with
  | .nx sd S' => ∀ σ' H' μ', Up μ H μ' H' → StoRep mg K μ' S' H' → SlRep K μ' H' sd σ' → Q.nx σ' H'
  | .bk sd S' => ∀ σ' H' μ', Up μ H μ' H' → StoRep mg K μ' S' H' → SlRep K μ' H' sd σ' → Q.bk σ' H'
  | .ct sd S' => ∀ σ' H' μ', Up μ H μ' H' → StoRep mg K μ' S' H' → SlRep K μ' H' sd σ' → Q.ct σ' H'
  | .rt d S' => ∀ v H' μ', Up μ H μ' H' → StoRep mg K μ' S' H' → RepV K μ' H' d v → Q.rt v H'
  | .exc x sd S' => ∀ cls dx σ' H' μ', Up μ H μ' H' → StoRep mg K μ' S' H' → SlRep K μ' H' sd σ' → ExRep mg K μ' H' x cls dx → W cls dx σ' H'
  | .stk => False
theorem FinS.up {mg : Str → Option Value} {K : PySem.W.Frag} {W : WX} {μ μ' : Mu} {H H' : Hp} {r : ResS} {Q : Ends} (u : Up μ H μ' H') (h : FinS mg K W μ H r Q) : FinS mg K W μ' H' r Q := by
  cases r with
  | nx d S => exact fun v H2 μ2 u2 => h v H2 μ2 (u.trans u2)
  | bk d S => exact fun v H2 μ2 u2 => h v H2 μ2 (u.trans u2)
  | ct d S => exact fun v H2 μ2 u2 => h v H2 μ2 (u.trans u2)
  | rt d S => exact fun v H2 μ2 u2 => h v H2 μ2 (u.trans u2)
  | exc x d S => exact fun a b v H2 μ2 u2 => h a b v H2 μ2 (u.trans u2)
  | stk => exact h
def tS (X : Cx) (W : WX) (m : MS) : TS := fun D σ H => ∃ μ S sd, StoRep X.mg X.K μ S H ∧ SlRep X.K μ H sd σ ∧ FinS X.mg X.K W μ H (m sd S) D
abbrev SS (X : Cx) (W : WX) (st : Stmt) (m : MS) : Prop := PS X st (tS X W m)
abbrev SB (X : Cx) (W : WX) (sts : List Stmt) (m : MS) : Prop := PSs X sts (tS X W m)
/-- an expression's end carried into a statement -/
def Res.thenS {α : Type} (r : Res α) (sd : Sl) (f : α → List Cell → ResS) : ResS := match r with
  | .ok a S => f a S
  | .exc x S => .exc x sd S
  | .stk => .stk
section
variable {X : Cx} {W : WX}
theorem tE_then {m : ME} {f : D → List Cell → ResS} {σ : St} {H : Hp} {μ : Mu} {S : List Cell} {sd : Sl} {Q : Ends} {Q' : VK} (hs : StoRep X.mg X.K μ S H) (hl : SlRep X.K μ H sd σ)
    (h : FinS X.mg X.K W μ H ((m sd S).thenS sd f) Q)
    (k : ∀ d S' μ' v H', StoRep X.mg X.K μ' S' H' → SlRep X.K μ' H' sd σ → Up μ H μ' H' → RepV X.K μ' H' d v → FinS X.mg X.K W μ' H' (f d S') Q → Q' v H') : tE X W m σ H Q' := by
  refine ⟨μ, S, sd, hs, hl, ?_⟩
  generalize hr : m sd S = r at h
  cases r with
  | ok d S' => exact fun v H' μ' u s r => k d S' μ' v H' s (hl.up u) u r (FinS.up u h)
  | exc x S' => exact fun c dx H' μ' u s e => h c dx σ H' μ' u s (hl.up u) e
  | stk => exact h
theorem tT_then {m : MT} {f : Bool → List Cell → ResS} {σ : St} {H : Hp} {μ : Mu} {S : List Cell} {sd : Sl} {Q : Ends} {Q' : Bool → Hp → Prop} (hs : StoRep X.mg X.K μ S H) (hl : SlRep X.K μ H sd σ)
    (h : FinS X.mg X.K W μ H ((m sd S).thenS sd f) Q)
    (k : ∀ d S' μ' H', StoRep X.mg X.K μ' S' H' → SlRep X.K μ' H' sd σ → Up μ H μ' H' → FinS X.mg X.K W μ' H' (f d S') Q → Q' d H') : tT X W m σ H Q' := by
  refine ⟨μ, S, sd, hs, hl, ?_⟩
  generalize hr : m sd S = r at h
  cases r with
  | ok d S' => exact fun v H' μ' u s r => (show d = v from r) ▸ k d S' μ' H' s (hl.up u) u (FinS.up u h)
  | exc x S' => exact fun c dx H' μ' u s e => h c dx σ H' μ' u s (hl.up u) e
  | stk => exact h

def mNext : MS := fun sd S => .nx sd S
def mSeq (a b : MS) : MS := fun sd S => match a sd S with
  | .nx sd1 S1 => b sd1 S1
  | .rt d S1 => .rt d S1
  | .bk sd1 S1 => .bk sd1 S1
  | .ct sd1 S1 => .ct sd1 S1
  | .exc x sd1 S1 => .exc x sd1 S1
  | .stk => .stk
theorem sb_nil : SB X W [] mNext := pss_nil.impF fun D σ H ⟨μ, S, sd, hs, hl, h⟩ => h σ H μ .refl hs hl
theorem sb_one {st : Stmt} {m : MS} (h : SS X W st m) : SB X W [st] m := pss_one h
theorem sb_cons {st : Stmt} {rest : List Stmt} {a b : MS} (h1 : SS X W st a) (h2 : SB X W rest b) : SB X W (st :: rest) (mSeq a b) := by
  refine (pss_cons h1 h2).impF fun D σ H ⟨μ, S, sd, hs, hl, h⟩ => ?_
  refine ⟨μ, S, sd, hs, hl, ?_⟩
  unfold mSeq at h
  generalize hr : a sd S = r at h
  cases r with
  | nx sd1 S1 => exact fun σ' H' μ' u s l => ⟨μ', S1, sd1, s, l, FinS.up u h⟩
  | rt d S1 => exact h
  | bk sd1 S1 => exact h
  | ct sd1 S1 => exact h
  | exc x sd1 S1 => exact h
  | stk => exact h
def mRet (m : ME) : MS := fun sd S => (m sd S).thenS sd fun d S1 => .rt d S1
theorem ss_ret {e : Expr} {m : ME} {pos : Pos} (h : SE X W e m) : SS X W (.Return (some e) pos) (mRet m) :=
  (ps_ret h).impF fun D σ H ⟨μ, S, sd, hs, hl, h⟩ => tE_then hs hl h fun d S1 μ1 v H1 hs1 hl1 u1 r1 h1 => h1 v H1 μ1 .refl hs1 r1
def mRetN : MS := fun sd S => .rt .non S
theorem ss_retN {pos : Pos} : SS X W (.Return none pos) mRetN := ps_retN.impF fun D σ H ⟨μ, S, sd, hs, hl, h⟩ => h .non H μ .refl hs .non
def mExpr (m : ME) : MS := fun sd S => (m sd S).thenS sd fun _ S1 => .nx sd S1
theorem ss_expr {e : Expr} {m : ME} {pos : Pos} (h : SE X W e m) (hs : swapsWith e none pos.line X.env = pure false := by rfl) : SS X W (.Expr e pos) (mExpr m) :=
  (ps_expr h hs).impF fun D σ H ⟨μ, S, sd, hs, hl, h⟩ => tE_then hs hl h fun d S1 μ1 v H1 hs1 hl1 u1 r1 h1 => h1 σ H1 μ1 .refl hs1 hl1
theorem ss_pass {pos : Pos} : SS X W (.Pass pos) mNext := ps_pass.impF fun D σ H ⟨μ, S, sd, hs, hl, h⟩ => h σ H μ .refl hs hl
def mBreak : MS := fun sd S => .bk sd S
def mCont : MS := fun sd S => .ct sd S
theorem ss_break {pos : Pos} : SS X W (.Break pos) mBreak := ps_break.impF fun D σ H ⟨μ, S, sd, hs, hl, h⟩ => h σ H μ .refl hs hl
theorem ss_continue {pos : Pos} : SS X W (.Continue pos) mCont := ps_continue.impF fun D σ H ⟨μ, S, sd, hs, hl, h⟩ => h σ H μ .refl hs hl
def mIf (t : MT) (a b : MS) : MS := fun sd S => (t sd S).thenS sd fun c S1 => if c = true then a sd S1 else b sd S1
theorem ss_if {c : Expr} {a b : List Stmt} {t : MT} {ma mb : MS} {pos : Pos} (hc : ST X W c t) (ha : SB X W a ma) (hb : SB X W b mb) : SS X W (.If c a b pos) (mIf t ma mb) :=
  (ps_if hc ha hb).impF fun D σ H ⟨μ, S, sd, hs, hl, h⟩ => tT_then hs hl h fun d S1 μ1 H1 hs1 hl1 u1 h1 => by
    cases d with
    | true => exact ⟨μ1, S1, sd, hs1, hl1, h1⟩
    | false => exact ⟨μ1, S1, sd, hs1, hl1, h1⟩

/-! ### targets -/
abbrev MG := D → Sl → List Cell → Res Sl
abbrev MGs := List D → Sl → List Cell → Res Sl
def tG (X : Cx) (W : WX) (g : MG) : TG := fun v σ H Q => ∃ μ S sd d, StoRep X.mg X.K μ S H ∧ SlRep X.K μ H sd σ ∧ RepV X.K μ H d v ∧ FinA X.mg X.K (fun μ H => SlRep X.K μ H) (fun c d H' => W c d σ H') μ H (g d sd S) Q
def tGs (X : Cx) (W : WX) (g : MGs) : TGs := fun vs σ H Q => ∃ μ S sd ds, StoRep X.mg X.K μ S H ∧ SlRep X.K μ H sd σ ∧ RepL X.K μ H ds vs ∧ FinA X.mg X.K (fun μ H => SlRep X.K μ H) (fun c d H' => W c d σ H') μ H (g ds sd S) Q
abbrev SG (X : Cx) (W : WX) (tg : Expr) (g : MG) : Prop := PG X tg (tG X W g)
theorem _root_.L2.PG.impF {X : Cx} {e : Expr} {t t' : TG} (h : PG X e t) (i : ∀ v σ H Q, t' v σ H Q → t v σ H Q) : PG X e t' := ⟨fun pins s σ H v u Q I r q => h.run pins s σ H v u Q I r (i v σ H Q q)⟩
def gN (i : Nat) : MG := fun d sd S => .ok (sd.set i (some d)) S
theorem sg_name (i : Nat) {x : Str} {pos : Pos} (hN : X.N.Nodup) (hi : X.N[i]? = some x := by rfl) (hx : Loc X.env.scope x := by first | exact Or.inl rfl | exact Or.inr rfl) (hf : X.fn x = true ∨ X.env.scope.names.lookup x = some .local := by first | exact .inl rfl | exact .inr rfl) : SG X W (.Name x pos) (gN i) :=
  (pg_name hN hi hx hf).impF fun v σ H Q ⟨μ, S, sd, d, hs, hl, r, h⟩ => h _ H μ .refl hs (hl.set r)
def mSet (i : Nat) (m : ME) : MS := fun sd S => (m sd S).thenS sd fun d S1 => .nx (sd.set i (some d)) S1
theorem ss_set (i : Nat) {x : Str} {e : Expr} {m : ME} {pos pos' : Pos} (hN : X.N.Nodup) (he : SE X W e m) (hi : X.N[i]? = some x := by rfl) (hx : Loc X.env.scope x := by first | exact Or.inl rfl | exact Or.inr rfl) (hs : swapsWith e (some (.Name x pos')) pos.line X.env = pure false := by rfl)
    (hf : X.fn x = true ∨ X.env.scope.names.lookup x = some .local := by first | exact .inl rfl | exact .inr rfl) : SS X W (.Assign [.Name x pos'] e pos) (mSet i m) :=
  (ps_set hN hi hx he hs hf).impF fun D σ H ⟨μ, S, sd, hs, hl, h⟩ => tE_then hs hl h fun d S1 μ1 v H1 hs1 hl1 u1 r1 h1 => h1 _ H1 μ1 .refl hs1 (hl1.set r1)
def mAsg (g : MG) (m : ME) : MS := fun sd S => (m sd S).thenS sd fun d S1 => (g d sd S1).thenS sd fun sd2 S2 => .nx sd2 S2
theorem ss_asg {tg e : Expr} {g : MG} {m : ME} {pos : Pos} (he : SE X W e m) (hg : SG X W tg g) (hs : swapsWithSole [tg] e pos.line X.env = pure false := by rfl) (hw : swappedStores [tg] e X.env = pure none := by rfl)
    (h1 : (assignEach [tg] X.env).map (·.2) = [assign tg X.env] := by rfl) : SS X W (.Assign [tg] e pos) (mAsg g m) :=
  (ps_asg he hg hs hw h1).impF fun D σ H ⟨μ, S, sd, hs, hl, h⟩ => tE_then hs hl h fun d S1 μ1 v H1 hs1 hl1 u1 r1 h1 => by
    refine ⟨μ1, S1, sd, d, hs1, hl1, r1, ?_⟩
    generalize hr : g d sd S1 = r at h1
    cases r with
    | ok sd2 S2 => exact fun σ' H' μ' u s l => h1 σ' H' μ' u s l
    | exc x S2 => exact fun c dx H' μ' u s e => h1 c dx σ H' μ' u s (hl1.up u) e
    | stk => exact h1
/-- name op= e -/
def mAug (i : Nat) (o : O2) (m : ME) : MS := fun sd S => (mVar i sd S).thenS sd fun d S1 => (m sd S1).thenS sd fun e S2 => (o d e S2).thenS sd fun f S3 => .nx (sd.set i (some f)) S3
theorem ss_aug (i : Nat) {x : Str} {e : Expr} {op : Operator} {o : O2} {m : ME} {pos pos' : Pos} (ho : OpD X W (inplaceOp op) o) (hN : X.N.Nodup) (he : SE X W e m) (hi : X.N[i]? = some x := by rfl) (hx : Loc X.env.scope x := by first | exact Or.inl rfl | exact Or.inr rfl)
    (hf : X.fn x = true ∨ X.env.scope.names.lookup x = some .local := by first | exact .inl rfl | exact .inr rfl) : SS X W (.AugAssign (.Name x pos') op e pos) (mAug i o m) := by
  obtain ⟨r, ho1, ho2⟩ := ho
  refine (ps_aug hN hi hx he (ti := r) (fun pins s σ H x y v u Q I r1 r2 h => ho1 pins s σ H x y v u Q I r1 r2 h) hf).impF fun D σ H ⟨μ, S, sd, hs, hl, h⟩ => ?_
  unfold mAug at h
  unfold mVar at h
  split at h
  · rename_i d e0
    obtain ⟨v, e1, rv⟩ := hl.at_ i d e0
    refine ⟨v, e1, ?_⟩
    refine tE_then hs hl h fun d2 S1 μ1 v2 H1 hs1 hl1 u1 r1 h1 => ho2 σ H1 μ1 S1 d d2 v v2 _ hs1 (rv.up u1) r1 ?_
    generalize hr : o d d2 S1 = r at h1
    cases r with
    | ok f S2 => exact fun w H' μ' u s r => h1 _ H' μ' u s ((hl1.up u).set r)
    | exc x S2 => exact fun c dx H' μ' u s e => h1 c dx σ H' μ' u s (hl1.up u) e
    | stk => exact h1
  · exact h.elim
end

/-! ### defs -/
def spM (mg : Str → Option Value) (K : PySem.W.Frag) (n : Nat) (m : List D → List Cell → Res D) : Sp := fun vs H Q E => vs.length = n ∧ ∃ μ S ds, StoRep mg K μ S H ∧ RepL K μ H ds vs ∧ FinA mg K (RepV K) E μ H (m ds S) Q
/-- a global def of the module: what it computes, at a level -/
def FnM (P : Program) (w : World) (K : PySem.W.Frag) (mg : Str → Option Value) (base : Heap) (k : Nat) (x : Str) (n : Nat) (m : List D → List Cell → Res D) : Prop :=
  ∃ f fd ps, mg x = some (.ref f) ∧ PySem.W.keepIn K (.ref f) = true ∧ Binds K fd ps [] ∧ FnOk P w K mg base (L2.CX P w) k f fd ps (spM mg K n m)
section
variable {P : Program} {w : World} {K : PySem.W.Frag} {mg : Str → Option Value} {base : Heap}
theorem FnM.mono {j k : Nat} {x : Str} {n : Nat} {m : List D → List Cell → Res D} (F : FnM P w K mg base j x n m) (h : j ≤ k) : FnM P w K mg base k x n m := by
  obtain ⟨f, fd, ps, h1, h2, h3, h4⟩ := F
  exact ⟨f, fd, ps, h1, h2, h3, h4.mono h⟩
def mCall (m : List D → List Cell → Res D) (a : MA) : ME := fun sd S => (a sd S).bind fun ds S1 => m ds S1
theorem se_fn {X : Cx} {W : WX} {k n : Nat} {x : Str} {m : List D → List Cell → Res D} {e : Expr} {es : List Expr} {ma : MA} {p pos : Pos} (F : FnM X.prog X.w X.K X.mg X.base k x n m) (hr : Room k X.A) (tk : Takes X W) (ha : SA X W (e :: es) ma) (hn : ∀ sd S ds S', ma sd S = .ok ds S' → ds.length = n)
    (hg : Gl X x := by rfl) (hdb : (x == ("__debug__" : Str)) = false := by decide) (he : starEach (e :: es) X.env = (false, eval e X.env) :: starEach es X.env := by rfl) (hpl : (backTo pos (starEach es X.env)).any (·.1) = false := by rfl) :
    SE X W (.Call (.Name x p) (e :: es) [] pos) (mCall m ma) := by
  obtain ⟨f, fd, ps, h1, h2, h3, h4⟩ := F
  refine (pe_callS h4 hr hg h1 h2 h3 (fun σ => passAt tk σ) ha hdb he hpl).impF fun σ H Q ⟨μ, S, sd, hs, hl, h⟩ => ?_
  refine ⟨μ, S, sd, hs, hl, ?_⟩
  have h' := FinA.bind (Rep := RepL X.K) h
  generalize hr : ma sd S = r at h h'
  cases r with
  | ok d S' => exact fun v H' μ' u s r => ⟨by rw [← r.length]; exact hn _ _ _ _ hr, μ', S', d, s, r, h' v H' μ' u s r⟩
  | exc x S' => exact h'
  | stk => exact h'
end
end Fx

namespace Fx
open PySem PySem.Spec PyProof.Rows L2

/-! ### ints -/
section
variable {X : Cx} {W : WX}
abbrev oAddI : O2 := oInt (fun _ _ => true) fun i j => .int (i + j)
abbrev oSub : O2 := oInt (fun _ _ => true) fun i j => .int (i - j)
theorem od_addI : OpD X W (binaryOp .Add) oAddI := od_int0 op_add fun _ _ _ _ => .int _
theorem od_iaddI : OpD X W (inplaceOp .Add) oAddI := od_int0 iop_add fun _ _ _ _ => .int _
theorem od_sub : OpD X W (binaryOp .Sub) oSub := od_int0 op_sub fun _ _ _ _ => .int _
theorem od_isub : OpD X W (inplaceOp .Sub) oSub := od_int0 iop_sub fun _ _ _ _ => .int _
def c64 (i : Int) : Bool := decide (-(2 ^ 64) < i) && decide (i < 2 ^ 64)
def cMul (i j : Int) : Bool := c64 i || c64 j
theorem c64_ok {i : Int} (h : c64 i = true) : -(2 ^ 64) < i ∧ i < 2 ^ 64 := by
  unfold c64 at h
  simpa using h
theorem cMul_ok {i j : Int} (h : cMul i j = true) : CMul i j := by
  unfold cMul at h
  rcases Bool.or_eq_true_iff.mp h with h | h
  · exact .inl (c64_ok h)
  · exact .inr (c64_ok h)
def oMul : O2 := oInt cMul fun i j => .int (i * j)
theorem od_mul : OpD X W (binaryOp .Mult) oMul := od_int op_mul (fun _ _ => cMul_ok) fun _ _ _ _ => .int _
theorem od_imul : OpD X W (inplaceOp .Mult) oMul := od_int iop_mul (fun _ _ => cMul_ok) fun _ _ _ _ => .int _
def cDiv (_ j : Int) : Bool := decide (0 < j) && decide (j < 1073741824)
theorem cDiv_ok {i j : Int} (h : cDiv i j = true) : CDiv i j := by
  unfold cDiv at h
  simp only [Bool.and_eq_true, decide_eq_true_eq] at h
  exact h
def oDiv : O2 := oInt cDiv fun i j => .int (i / j)
theorem od_div : OpD X W (binaryOp .FloorDiv) oDiv := od_int op_fdiv (fun _ _ => cDiv_ok) fun _ _ _ _ => .int _
theorem od_idiv : OpD X W (inplaceOp .FloorDiv) oDiv := od_int iop_fdiv (fun _ _ => cDiv_ok) fun _ _ _ _ => .int _
def oMod : O2 := oInt (fun _ j => decide (0 < j)) fun i j => .int (i % j)
theorem od_mod : OpD X W (binaryOp .Mod) oMod := od_int op_mod (fun _ _ h => of_decide_eq_true h) fun _ _ _ _ => .int _
theorem od_imod : OpD X W (inplaceOp .Mod) oMod := od_int iop_mod (fun _ _ h => of_decide_eq_true h) fun _ _ _ _ => .int _
def cPow (i j : Int) : Bool := decide (0 ≤ j) && decide (j ≤ 1000000) && decide (i.natAbs < 2 ^ 64)
theorem cPow_ok {i j : Int} (h : cPow i j = true) : CPow i j := by
  unfold cPow at h
  simp only [Bool.and_eq_true, decide_eq_true_eq] at h
  exact ⟨h.1.1, h.1.2, h.2⟩
def oPow : O2 := oInt cPow fun i j => .int (i ^ j.toNat)
theorem od_pow : OpD X W (binaryOp .Pow) oPow := od_int op_pow (fun _ _ => cPow_ok) fun _ _ _ _ => .int _
def oShl : O2 := oInt cPow fun i j => .int (i * 2 ^ j.toNat)
theorem od_shl : OpD X W (binaryOp .LShift) oShl := od_int op_shl (fun _ _ => cPow_ok) fun _ _ _ _ => .int _
theorem od_ishl : OpD X W (inplaceOp .LShift) oShl := od_int iop_shl (fun _ _ => cPow_ok) fun _ _ _ _ => .int _
def oShr : O2 := oInt (fun _ j => decide (0 ≤ j)) fun i j => .int (i / 2 ^ j.toNat)
theorem od_shr : OpD X W (binaryOp .RShift) oShr := od_int op_shr (fun _ _ h => of_decide_eq_true h) fun _ _ _ _ => .int _
theorem od_ishr : OpD X W (inplaceOp .RShift) oShr := od_int iop_shr (fun _ _ h => of_decide_eq_true h) fun _ _ _ _ => .int _
def oAnd : O2 := oInt (fun _ _ => true) fun i j => .int (Builtin.bitAnd i j)
def oOr : O2 := oInt (fun _ _ => true) fun i j => .int (Builtin.bitOr i j)
def oXor : O2 := oInt (fun _ _ => true) fun i j => .int (Builtin.bitXor i j)
theorem od_and : OpD X W (binaryOp .BitAnd) oAnd := od_int0 op_and fun _ _ _ _ => .int _
theorem od_or : OpD X W (binaryOp .BitOr) oOr := od_int0 op_or fun _ _ _ _ => .int _
theorem od_xor : OpD X W (binaryOp .BitXor) oXor := od_int0 op_xor fun _ _ _ _ => .int _
theorem od_iand : OpD X W (inplaceOp .BitAnd) oAnd := od_int0 iop_and fun _ _ _ _ => .int _
theorem od_ior : OpD X W (inplaceOp .BitOr) oOr := od_int0 iop_or fun _ _ _ _ => .int _
theorem od_ixor : OpD X W (inplaceOp .BitXor) oXor := od_int0 iop_xor fun _ _ _ _ => .int _
/-! comparisons of ints (and of texts) -/
def oLt : O2 := fun d e S => match d, e with
  | .int i, .int j => .ok (.bl (decide (i < j))) S
  | .str x, .str y => .ok (.bl (decide (x < y))) S
  | _, _ => .stk
def oGt : O2 := oInt (fun _ _ => true) fun i j => .bl (decide (j < i))
def oLe : O2 := fun d e S => match d, e with
  | .int i, .int j => .ok (.bl (decide (i ≤ j))) S
  | .str x, .str y => .ok (.bl (!decide (y < x))) S
  | _, _ => .stk
def oGe : O2 := oInt (fun _ _ => true) fun i j => .bl (decide (j ≤ i))
theorem od_lt : OpD X W (compareOp .Lt) oLt := by
  refine ⟨_, op_lt.or op_lt_str, fun σ H μ S d e x y Q hs rx ry h => ?_⟩
  unfold oLt at h
  split at h
  · exact .inl ⟨_, _, rx.inv_int, ry.inv_int, h _ H μ .refl hs (.bl _)⟩
  · exact .inr ⟨_, _, rx.inv_str, ry.inv_str, h _ H μ .refl hs (.bl _)⟩
  · exact h.elim
theorem od_le : OpD X W (compareOp .LtE) oLe := by
  refine ⟨_, op_le.or op_le_str, fun σ H μ S d e x y Q hs rx ry h => ?_⟩
  unfold oLe at h
  split at h
  · exact .inl ⟨_, _, rx.inv_int, ry.inv_int, h _ H μ .refl hs (.bl _)⟩
  · exact .inr ⟨_, _, rx.inv_str, ry.inv_str, h _ H μ .refl hs (.bl _)⟩
  · exact h.elim
theorem od_gt : OpD X W (compareOp .Gt) oGt := od_int0 op_gt fun _ _ _ _ => .bl _
theorem od_ge : OpD X W (compareOp .GtE) oGe := od_int0 op_ge fun _ _ _ _ => .bl _
/-! is None -/
def isNonD : D → Bool | .non => true | _ => false
theorem isNonD_ok {K : PySem.W.Frag} {μ : Mu} {H : Hp} {d : D} {x : V} (r : RepV K μ H d x) : decide (x = V.non) = isNonD d := by
  cases r <;> simp [isNonD]
def oIsN : O2 := fun d e S => match e with | .non => .ok (.bl (isNonD d)) S | _ => .stk
def oNotN : O2 := fun d e S => match e with | .non => .ok (.bl (!isNonD d)) S | _ => .stk
theorem od_isN : OpD X W (compareOp .Is) oIsN := by
  refine ⟨_, op_isN, fun σ H μ S d e x y Q hs rx ry h => ?_⟩
  unfold oIsN at h
  split at h
  · exact ⟨ry.inv_non, h _ H μ .refl hs (by rw [isNonD_ok rx]; exact .bl _)⟩
  · exact h.elim
theorem od_notN : OpD X W (compareOp .IsNot) oNotN := by
  refine ⟨_, op_notN, fun σ H μ S d e x y Q hs rx ry h => ?_⟩
  unfold oNotN at h
  split at h
  · exact ⟨ry.inv_non, h _ H μ .refl hs (by rw [isNonD_ok rx]; exact .bl _)⟩
  · exact h.elim
/-! unary -/
def mNeg (m : ME) : ME := fun sd S => (m sd S).bind fun d S1 => match d with | .int i => .ok (.int (-i)) S1 | _ => .stk
theorem se_neg {a : Expr} {m : ME} {pos : Pos} (ha : SE X W a m) : SE X W (.UnaryOp .USub a pos) (mNeg m) :=
  (pe_un un_neg ha).impF fun σ H Q ⟨μ, S, sd, hs, hl, h⟩ => tE_bind hs hl h fun d S1 μ1 v H1 hs1 hl1 u1 r1 h1 => by
    split at h1
    · exact ⟨_, r1.inv_int, h1 _ H1 μ1 .refl hs1 (.int _)⟩
    · exact h1.elim
end

/-! ### sequences of the store -/
def cellL (S : List Cell) (n : Nat) : Option (List D) := match S[n]? with
  | some (.lst xs) => some xs
  | _ => none
def seqD (S : List Cell) : D → Option (List D)
  | .tup xs => some xs
  | .cst xs => some xs
  | .loc n => cellL S n
  | _ => none
section
variable {mg : Str → Option Value} {K : PySem.W.Frag} {μ : Mu} {S : List Cell} {H : Hp}
theorem StoRep.cellL (h : StoRep mg K μ S H) {n : Nat} {a : Addr} {xs : List D} (e : μ[n]? = some a) (hc : cellL S n = some xs) : ∃ vs, Rd H a (.lst vs) ∧ RepL K μ H xs vs := by
  unfold Fx.cellL at hc
  split at hc
  · rename_i ys es
    cases hc
    obtain ⟨vs, h1, r⟩ := h.at_ n _ a es e
    exact ⟨vs, .inl h1, r⟩
  · cases hc
theorem StoRep.seqD (h : StoRep mg K μ S H) {d : D} {x : V} {xs : List D} (r : RepV K μ H d x) (hc : seqD S d = some xs) : ∃ p vs, x = .ref p ∧ (SqL K H p vs ∨ SqT K H p vs) ∧ RepL K μ H xs vs := by
  cases r with
  | tup ht rl => cases hc; exact ⟨_, _, rfl, .inr ht, rl⟩
  | cst ht rl => cases hc; exact ⟨_, _, rfl, .inl ht.sq, rl⟩
  | loc e =>
    obtain ⟨vs, h1, r⟩ := h.cellL e hc
    exact ⟨_, vs, rfl, .inl (.inl h1), r⟩
  | _ => cases hc
end
/-! ### truth -/
def truD (S : List Cell) : D → Option Bool
  | .non => some false
  | .bl b => some b
  | .int i => some (i != 0)
  | .str x => if x.length ≤ sizeLine then some (!x.isEmpty) else none
  | .tup xs => some (!xs.isEmpty)
  | .cst xs => some (!xs.isEmpty)
  | .loc n => (cellL S n).map fun xs => !xs.isEmpty
theorem RepL.isEmpty {K : PySem.W.Frag} {μ : Mu} {H : Hp} {ds : List D} {vs : List V} (r : RepL K μ H ds vs) : ds.isEmpty = vs.isEmpty := by cases r <;> rfl
section
variable {X : Cx} {W : WX}
theorem truD_ok {μ : Mu} {S : List Cell} {H : Hp} {d : D} {x : V} {b : Bool} (hs : StoRep X.mg X.K μ S H) (r : RepV X.K μ H d x) (h : truD S d = some b) : TruV X.K x H b := by
  cases r with
  | non => exact (Option.some.inj h).symm
  | bl c => exact (Option.some.inj h).symm
  | int i => exact (Option.some.inj h).symm
  | str y =>
    have h : (if y.length ≤ sizeLine then some (!y.isEmpty) else none) = some b := h
    split at h
    · rename_i hz
      refine ⟨by show y.toArray.size ≤ _; simpa using hz, ?_⟩
      rw [← Option.some.inj h]
      show _ = ((y.toArray.size : Int) != 0)
      cases y with
      | nil => rfl
      | cons a r =>
        simp only [List.isEmpty_cons, Bool.not_false, List.size_toArray, List.length_cons]
        symm
        exact bne_iff_ne.mpr (by omega)
    · cases h
  | tup ht rl => exact .inr (.inl ⟨_, ht, by rw [← rl.isEmpty]; exact (Option.some.inj h).symm⟩)
  | cst ht rl => exact .inl ⟨_, ht.sq, by rw [← rl.isEmpty]; exact (Option.some.inj h).symm⟩
  | loc e =>
    unfold truD at h
    obtain ⟨xs, hx, rfl⟩ := Option.map_eq_some_iff.mp h
    obtain ⟨vs, h1, rl⟩ := hs.cellL e hx
    exact .inl ⟨vs, .inl h1, by rw [rl.isEmpty]⟩
def optR {α : Type} (o : Option α) (S : List Cell) : Res α := match o with | some a => .ok a S | none => .stk
def mTru (m : ME) : MT := fun sd S => (m sd S).bind fun d S1 => optR (truD S1 d) S1
theorem st_tru {e : Expr} {m : ME} (he : SE X W e m) (hp : ∀ whole, isTrue e X.env whole = (do let v ← whole; standAt e.pos; holding [v] (truthy v)) := by intro _; rfl) : ST X W e (mTru m) :=
  (pt_truth he hp).impF fun σ H Q ⟨μ, S, sd, hs, hl, h⟩ => tE_bind (Rep' := RepB) hs hl h fun d S1 μ1 v H1 hs1 hl1 u1 r1 h1 => by
    unfold optR at h1
    split at h1
    · rename_i b hb
      exact ⟨b, truD_ok hs1 r1 hb, h1 b H1 μ1 .refl hs1 rfl⟩
    · exact h1.elim
def blD : D → Option Bool | .bl b => some b | _ => none
def mTst (m : ME) : MT := fun sd S => (m sd S).bind fun d S1 => optR (blD d) S1
theorem mTst_of {e : Expr} {m : ME} {t : TE} (h : ∀ σ H Q, tE X W m σ H Q → t σ H Q) (σ : St) (H : Hp) (Q : Bool → Hp → Prop) (q : tT X W (mTst m) σ H Q) : tTest t σ H Q := by
  obtain ⟨μ, S, sd, hs, hl, q⟩ := q
  refine h σ H _ (tE_bind (Rep' := RepB) hs hl q fun d S1 μ1 v H1 hs1 hl1 u1 r1 h1 => ?_)
  unfold optR blD at h1
  cases r1 with
  | bl b => exact ⟨b, rfl, h1 b H1 μ1 .refl hs1 rfl⟩
  | _ => exact h1.elim
theorem st_cmp {op : CmpOp} {o : O2} {a b : Expr} {ma mb : ME} {pos : Pos} (ho : OpD X W (compareOp op) o) (ha : SE X W a ma) (hb : SE X W b mb) (hm : behindInMarks op b = false := by first | exact nomark _ | rfl) : ST X W (.Compare a [op] [b] pos) (mTst (mBin o ma mb)) := by
  obtain ⟨r, h1, h2⟩ := ho
  exact (pt_cmpR h1 ha hb hm).impF (mTst_of (e := a) (bin_of ha hb h2))
/-! chains a op b op' c -/
def mChain (o o' : O2) (a b c : ME) : ME := fun sd S => (a sd S).bind fun d S1 => (b sd S1).bind fun e S2 => (o d e S2).bind fun z S3 => match z with
  | .bl k => if k = true then (c sd S3).bind fun f S4 => o' e f S4 else .ok (.bl false) S3
  | _ => .stk
theorem chain_of {a b c : Expr} {ma mb mc : ME} {o o' : O2} {r r' : R2} (ha : SE X W a ma) (hb : SE X W b mb) (hc : SE X W c mc)
    (ho : ∀ σ H μ S d e x y Q, StoRep X.mg X.K μ S H → RepV X.K μ H d x → RepV X.K μ H e y → FinA X.mg X.K (RepV X.K) (fun c d H' => W c d σ H') μ H (o d e S) Q → r x y H Q)
    (ho' : ∀ σ H μ S d e x y Q, StoRep X.mg X.K μ S H → RepV X.K μ H d x → RepV X.K μ H e y → FinA X.mg X.K (RepV X.K) (fun c d H' => W c d σ H') μ H (o' d e S) Q → r' x y H Q) (σ : St) (H : Hp) (Q : VK) (h : tE X W (mChain o o' ma mb mc) σ H Q) :
    tChain r r' (tE X W ma) (tE X W mb) (tE X W mc) σ H Q := by
  obtain ⟨μ, S, sd, hs, hl, h⟩ := h
  refine tE_bind hs hl h fun d S1 μ1 v H1 hs1 hl1 u1 r1 h1 => tE_bind hs1 hl1 h1 fun e S2 μ2 w H2 hs2 hl2 u2 r2 h2 => ?_
  refine ho σ H2 μ2 S2 d e v w _ hs2 (r1.up u2) r2 ?_
  have h3 := FinA.bind (Rep := RepV X.K) h2
  generalize hr : o d e S2 = ro at h2 h3
  cases ro with
  | ok z S3 =>
    intro zv H3 μ3 u3 hs3 r3
    have h4 := h3 zv H3 μ3 u3 hs3 r3
    cases r3 with
    | bl k =>
      refine ⟨k, rfl, ?_⟩
      cases k with
      | true =>
        simp only [if_true] at h4 ⊢
        exact tE_bind hs3 (hl2.up u3) h4 fun f S4 μ4 y H4 hs4 hl4 u4 r4 h5 => ho' σ H4 μ4 S4 e f w y Q hs4 ((r2.up u3).up u4) r4 h5
      | false =>
        simp only [Bool.false_eq_true, if_false] at h4 ⊢
        exact h4 _ H3 μ3 .refl hs3 (.bl _)
    | _ => exact h4.elim
  | exc x S3 => exact h3
  | stk => exact h3
theorem se_chain {op op' : CmpOp} {o o' : O2} {a b c : Expr} {ma mb mc : ME} {pos : Pos} (ho : OpD X W (compareOp op) o) (ho' : OpD X W (compareOp op') o') (ha : SE X W a ma) (hb : SE X W b mb) (hc : SE X W c mc)
    (hm : lastMarks [op, op'] [b, c] = false := by with_unfolding_all rfl) : SE X W (.Compare a [op, op'] [b, c] pos) (mChain o o' ma mb mc) := by
  obtain ⟨r, h1, h2⟩ := ho
  obtain ⟨r', h1', h2'⟩ := ho'
  exact (pe_chain h1 h1' ha hb hc hm).impF (chain_of ha hb hc h2 h2')
theorem st_chain {op op' : CmpOp} {o o' : O2} {a b c : Expr} {ma mb mc : ME} {pos : Pos} (ho : OpD X W (compareOp op) o) (ho' : OpD X W (compareOp op') o') (ha : SE X W a ma) (hb : SE X W b mb) (hc : SE X W c mc) (hm : lastMarks [op, op'] [b, c] = false := by with_unfolding_all rfl) : ST X W (.Compare a [op, op'] [b, c] pos) (mTst (mChain o o' ma mb mc)) := by
  obtain ⟨r, h1, h2⟩ := ho
  obtain ⟨r', h1', h2'⟩ := ho'
  exact (pt_chain h1 h1' ha hb hc hm).impF (mTst_of (e := a) (chain_of ha hb hc h2 h2'))
/-! and, or, not -/
abbrev SW (X : Cx) (W : WX) (e : Expr) (m : MT) : Prop := PW X e (tT X W m)
theorem _root_.L2.PW.impF {X : Cx} {e : Expr} {t t' : TT} (h : PW X e t) (i : ∀ σ H Q, t' σ H Q → t σ H Q) : PW X e t' := ⟨fun wh pins s σ H Q I q => h.run wh pins s σ H Q I (i σ H Q q)⟩
def mAnd (a b : MT) : MT := fun sd S => (a sd S).bind fun c S1 => if c = true then b sd S1 else .ok false S1
def mOr (a b : MT) : MT := fun sd S => (a sd S).bind fun c S1 => if c = true then .ok true S1 else b sd S1
def mNot (a : MT) : MT := fun sd S => (a sd S).bind fun c S1 => .ok (!c) S1
theorem sw_and1 {a : Expr} {ma : MT} {pos : Pos} (h : ST X W a ma) : SW X W (.BoolOp .And [a] pos) ma := pw_and1 h
theorem sw_or1 {a : Expr} {ma : MT} {pos : Pos} (h : ST X W a ma) : SW X W (.BoolOp .Or [a] pos) ma := pw_or1 h
theorem sw_and {a b : Expr} {rest : List Expr} {ma mb : MT} {pos : Pos} (h : ST X W a ma) (hb : SW X W (.BoolOp .And (b :: rest) pos) mb) : SW X W (.BoolOp .And (a :: b :: rest) pos) (mAnd ma mb) :=
  (pw_and h hb).impF fun σ H Q ⟨μ, S, sd, hs, hl, h⟩ => tT_bind hs hl h fun d S1 μ1 H1 hs1 hl1 u1 h1 => by
    cases d with
    | true => exact ⟨μ1, S1, sd, hs1, hl1, h1⟩
    | false => exact h1 false H1 μ1 .refl hs1 rfl
theorem sw_or {a b : Expr} {rest : List Expr} {ma mb : MT} {pos : Pos} (h : ST X W a ma) (hb : SW X W (.BoolOp .Or (b :: rest) pos) mb) : SW X W (.BoolOp .Or (a :: b :: rest) pos) (mOr ma mb) :=
  (pw_or h hb).impF fun σ H Q ⟨μ, S, sd, hs, hl, h⟩ => tT_bind hs hl h fun d S1 μ1 H1 hs1 hl1 u1 h1 => by
    cases d with
    | true => exact h1 true H1 μ1 .refl hs1 rfl
    | false => exact ⟨μ1, S1, sd, hs1, hl1, h1⟩
theorem st_sw {e : Expr} {m : MT} (h : SW X W e m) : ST X W e m := h.pt
theorem st_not {a : Expr} {ma : MT} {pos : Pos} (h : ST X W a ma) : ST X W (.UnaryOp .Not a pos) (mNot ma) :=
  (pt_not h).impF fun σ H Q ⟨μ, S, sd, hs, hl, h⟩ => tT_bind hs hl h fun d S1 μ1 H1 hs1 hl1 u1 h1 => h1 (!d) H1 μ1 .refl hs1 rfl
/-! .. as values -/
def mAndV (a b : ME) : ME := fun sd S => (a sd S).bind fun d S1 => match truD S1 d with
  | some true => b sd S1
  | some false => .ok d S1
  | none => .stk
def mOrV (a b : ME) : ME := fun sd S => (a sd S).bind fun d S1 => match truD S1 d with
  | some true => .ok d S1
  | some false => b sd S1
  | none => .stk
def mNotV (a : ME) : ME := fun sd S => (a sd S).bind fun d S1 => match truD S1 d with
  | some b => .ok (.bl (!b)) S1
  | none => .stk
theorem se_one {op : BoolOp} {a : Expr} {m : ME} {pos : Pos} (h : SE X W a m) : SE X W (.BoolOp op [a] pos) m := pe_one h
theorem se_and {a b : Expr} {rest : List Expr} {ma mb : ME} {pos : Pos} (h : SE X W a ma) (hb : SE X W (.BoolOp .And (b :: rest) pos) mb) : SE X W (.BoolOp .And (a :: b :: rest) pos) (mAndV ma mb) :=
  (pe_andT h hb).impF fun σ H Q ⟨μ, S, sd, hs, hl, h⟩ => tE_bind hs hl h fun d S1 μ1 v H1 hs1 hl1 u1 r1 h1 => by
    split at h1
    · rename_i e
      exact ⟨true, truD_ok hs1 r1 e, ⟨μ1, S1, sd, hs1, hl1, h1⟩⟩
    · rename_i e
      exact ⟨false, truD_ok hs1 r1 e, h1 _ H1 μ1 .refl hs1 r1⟩
    · exact h1.elim
theorem se_or {a b : Expr} {rest : List Expr} {ma mb : ME} {pos : Pos} (h : SE X W a ma) (hb : SE X W (.BoolOp .Or (b :: rest) pos) mb) : SE X W (.BoolOp .Or (a :: b :: rest) pos) (mOrV ma mb) :=
  (pe_orT h hb).impF fun σ H Q ⟨μ, S, sd, hs, hl, h⟩ => tE_bind hs hl h fun d S1 μ1 v H1 hs1 hl1 u1 r1 h1 => by
    split at h1
    · rename_i e
      exact ⟨true, truD_ok hs1 r1 e, h1 _ H1 μ1 .refl hs1 r1⟩
    · rename_i e
      exact ⟨false, truD_ok hs1 r1 e, ⟨μ1, S1, sd, hs1, hl1, h1⟩⟩
    · exact h1.elim
theorem se_not {a : Expr} {ma : ME} {pos : Pos} (h : SE X W a ma) : SE X W (.UnaryOp .Not a pos) (mNotV ma) :=
  (pe_notT h).impF fun σ H Q ⟨μ, S, sd, hs, hl, h⟩ => tE_bind hs hl h fun d S1 μ1 v H1 hs1 hl1 u1 r1 h1 => by
    split at h1
    · rename_i b e
      exact ⟨b, truD_ok hs1 r1 e, h1 _ H1 μ1 .refl hs1 (.bl _)⟩
    · exact h1.elim
def mIfE (t : MT) (a b : ME) : ME := fun sd S => (t sd S).bind fun c S1 => if c = true then a sd S1 else b sd S1
theorem se_ife {c a b : Expr} {t : MT} {ma mb : ME} {pos : Pos} (hc : ST X W c t) (ha : SE X W a ma) (hb : SE X W b mb) : SE X W (.IfExp c a b pos) (mIfE t ma mb) :=
  (pe_ifExp hc ha hb).impF fun σ H Q ⟨μ, S, sd, hs, hl, h⟩ => tT_bind hs hl h fun d S1 μ1 H1 hs1 hl1 u1 h1 => by
    cases d with
    | true => exact ⟨μ1, S1, sd, hs1, hl1, h1⟩
    | false => exact ⟨μ1, S1, sd, hs1, hl1, h1⟩
end

/-! ### built-in calls -/
abbrev OC := List D → List Cell → Res D
def CallD (X : Cx) (W : WX) (f : Value) (o : OC) : Prop :=
  ∃ r : List V → Hp → VK → Prop, CallR X f r ∧ ∀ σ H μ S ds vs Q, StoRep X.mg X.K μ S H → RepL X.K μ H ds vs → FinA X.mg X.K (RepV X.K) (fun c d H' => W c d σ H') μ H (o ds S) Q → r vs H Q
def mB (o : OC) (a : MA) : ME := fun sd S => (a sd S).bind fun ds S1 => o ds S1
section
variable {X : Cx} {W : WX}
theorem se_callB {id : String} {x : Str} {o : OC} {e : Expr} {es : List Expr} {ma : MA} {p pos : Pos} (hc : CallD X W (.builtin id) o) (hm : X.mg x = none) (ha : SA X W (e :: es) ma) (hv : bootBuiltins x = some (.builtin id) := by decide +kernel) (hg : Gl X x := by rfl) (hn : x ≠ "__name__" := by decide) (hdb : (x == ("__debug__" : Str)) = false := by decide)
    (he : starEach (e :: es) X.env = (false, eval e X.env) :: starEach es X.env := by rfl) (hpl : (backTo pos (starEach es X.env)).any (·.1) = false := by rfl) : SE X W (.Call (.Name x p) (e :: es) [] pos) (mB o ma) := by
  obtain ⟨r, h1, h2⟩ := hc
  exact (pe_callB h1 hg hm hv ha hn hdb he hpl).impF fun σ H Q ⟨μ, S, sd, hs, hl, h⟩ => tA_bind hs hl h fun ds S1 μ1 vs H1 hs1 hl1 u1 r1 h1 => h2 σ H1 μ1 S1 ds vs Q hs1 r1 h1
theorem se_callTy {T : String} {x : Str} {o : OC} {e : Expr} {es : List Expr} {ma : MA} {p pos : Pos} (hc : CallD X W (.type T) o) (hm : X.mg x = none) (ha : SA X W (e :: es) ma) (hv : bootBuiltins x = some (.type T) := by decide +kernel) (hg : Gl X x := by rfl) (hn : x ≠ "__name__" := by decide) (hdb : (x == ("__debug__" : Str)) = false := by decide)
    (he : starEach (e :: es) X.env = (false, eval e X.env) :: starEach es X.env := by rfl) (hpl : (backTo pos (starEach es X.env)).any (·.1) = false := by rfl) : SE X W (.Call (.Name x p) (e :: es) [] pos) (mB o ma) := by
  obtain ⟨r, h1, h2⟩ := hc
  exact (pe_callTy h1 hg hm hv ha hn hdb he hpl).impF fun σ H Q ⟨μ, S, sd, hs, hl, h⟩ => tA_bind hs hl h fun ds S1 μ1 vs H1 hs1 hl1 u1 r1 h1 => h2 σ H1 μ1 S1 ds vs Q hs1 r1 h1
theorem RepL.one {K : PySem.W.Frag} {μ : Mu} {H : Hp} {d : D} {vs : List V} (h : RepL K μ H [d] vs) : ∃ x, vs = [x] ∧ RepV K μ H d x := by
  cases h with
  | cons h r => cases r; exact ⟨_, rfl, h⟩
theorem RepL.two {K : PySem.W.Frag} {μ : Mu} {H : Hp} {d e : D} {vs : List V} (h : RepL K μ H [d, e] vs) : ∃ x y, vs = [x, y] ∧ RepV K μ H d x ∧ RepV K μ H e y := by
  cases h with
  | cons h r =>
    obtain ⟨y, rfl, h2⟩ := RepL.one r
    exact ⟨_, y, rfl, h, h2⟩
def oLen : OC := fun ds S => match ds with
  | [.str x] => if x.length ≤ sizeLine then .ok (.int x.length) S else .stk
  | [d] => match seqD S d with
    | some xs => .ok (.int xs.length) S
    | none => .stk
  | _ => .stk
theorem cd_len : CallD X W (.builtin "len") oLen := by
  refine ⟨_, call_len, fun σ H μ S ds vs Q hs r h => ?_⟩
  unfold oLen at h
  split at h
  · split at h
    · rename_i x hz
      obtain ⟨v, rfl, r1⟩ := r.one
      cases r1
      exact ⟨_, x.length, rfl, ⟨by show x.toArray.size ≤ _; simpa using hz, by show _ = x.toArray.size; simp⟩, h _ H μ .refl hs (.int _)⟩
    · exact h.elim
  · split at h
    · rename_i d _ xs e
      obtain ⟨v, rfl, r1⟩ := r.one
      obtain ⟨p, ys, rfl, hq, rl⟩ := hs.seqD r1 e
      refine ⟨_, xs.length, rfl, ?_, h _ H μ .refl hs (.int _)⟩
      rcases hq with hq | hq
      · exact .inl ⟨ys, hq, rl.length⟩
      · exact .inr ⟨ys, hq, rl.length⟩
    · exact h.elim
  · exact h.elim
def oAbs : OC := fun ds S => match ds with | [.int i] => .ok (.int (if i < 0 then -i else i)) S | _ => .stk
theorem cd_abs : CallD X W (.builtin "abs") oAbs := by
  refine ⟨_, call_abs, fun σ H μ S ds vs Q hs r h => ?_⟩
  unfold oAbs at h
  split at h
  · obtain ⟨v, rfl, r1⟩ := r.one
    cases r1
    exact ⟨_, rfl, h _ H μ .refl hs (.int _)⟩
  · exact h.elim
def oIntC : OC := fun ds S => match ds with | [.int i] => .ok (.int i) S | [.bl b] => .ok (.int (if b then 1 else 0)) S | _ => .stk
theorem cd_int : CallD X W (.type "int") oIntC := by
  refine ⟨_, call_int1, fun σ H μ S ds vs Q hs r h => ?_⟩
  unfold oIntC at h
  split at h
  · obtain ⟨v, rfl, r1⟩ := r.one
    cases r1
    exact .inl ⟨_, rfl, h _ H μ .refl hs (.int _)⟩
  · obtain ⟨v, rfl, r1⟩ := r.one
    cases r1
    exact .inr ⟨_, rfl, h _ H μ .refl hs (.int _)⟩
  · exact h.elim
def oListC : OC := fun ds S => match ds with
  | [d] => match seqD S d with
    | some xs => .ok (.loc S.length) (S ++ [.lst xs])
    | none => .stk
  | _ => .stk
theorem cd_list : CallD X W (.type "list") oListC := by
  refine ⟨_, call_list_of, fun σ H μ S ds vs Q hs r h => ?_⟩
  unfold oListC at h
  split at h
  · split at h
    · rename_i d xs e
      obtain ⟨v, rfl, r1⟩ := r.one
      obtain ⟨p, ys, rfl, hq, rl⟩ := hs.seqD r1 e
      exact ⟨p, ys, rfl, hq, fun l hn => h (.ref l) _ (μ ++ [l]) (up_new hn) (hs.alloc hn ⟨ys, upd_same, rl.up (up_new hn)⟩) (.loc (by rw [← hs.len]; simp))⟩
    · exact h.elim
  · exact h.elim
def oTupC : OC := fun ds S => match ds with
  | [d] => match seqD S d with
    | some xs => .ok (.tup xs) S
    | none => .stk
  | _ => .stk
theorem cd_tuple : CallD X W (.type "tuple") oTupC := by
  refine ⟨_, call_tuple_of, fun σ H μ S ds vs Q hs r h => ?_⟩
  unfold oTupC at h
  split at h
  · split at h
    · rename_i d xs e
      obtain ⟨v, rfl, r1⟩ := r.one
      cases r1 with
      | tup ht rl => cases e; exact ⟨_, _, rfl, .inr ⟨ht, h _ H μ .refl hs (.tup ht rl)⟩⟩
      | cst ht rl => cases e; exact ⟨_, _, rfl, .inl ⟨ht.sq, fun l hn => h (.ref l) _ μ (up_tmp hn) (hs.tmp hn) (.tup (SqT.of upd_same) (rl.up (up_tmp hn)))⟩⟩
      | loc en =>
        obtain ⟨ys, hq, rl⟩ := hs.cellL en e
        exact ⟨_, _, rfl, .inl ⟨.inl hq, fun l hn => h (.ref l) _ μ (up_tmp hn) (hs.tmp hn) (.tup (SqT.of upd_same) (rl.up (up_tmp hn)))⟩⟩
      | _ => cases e
    · exact h.elim
  · exact h.elim
def intsD : List D → Option (List Int)
  | [] => some []
  | .int i :: r => (intsD r).map (i :: ·)
  | _ => none
theorem intsD_ok {K : PySem.W.Frag} {μ : Mu} {H : Hp} : ∀ {ds : List D} {vs : List V} {ns : List Int}, RepL K μ H ds vs → intsD ds = some ns → vs = ns.map V.int
  | _, _, _, .nil, h => by cases h; rfl
  | _, _, ns, .cons (d := d) h r, e => by
    cases h with
    | int i =>
      unfold intsD at e
      obtain ⟨ms, e1, rfl⟩ := Option.map_eq_some_iff.mp e
      rw [intsD_ok r e1]; rfl
    | _ => cases e
def blsD : List D → Option (List Bool)
  | [] => some []
  | .bl i :: r => (blsD r).map (i :: ·)
  | _ => none
theorem blsD_ok {K : PySem.W.Frag} {μ : Mu} {H : Hp} : ∀ {ds : List D} {vs : List V} {ns : List Bool}, RepL K μ H ds vs → blsD ds = some ns → vs = ns.map V.bl
  | _, _, _, .nil, h => by cases h; rfl
  | _, _, ns, .cons (d := d) h r, e => by
    cases h with
    | bl i =>
      unfold blsD at e
      obtain ⟨ms, e1, rfl⟩ := Option.map_eq_some_iff.mp e
      rw [blsD_ok r e1]; rfl
    | _ => cases e
def lstD (S : List Cell) : D → Option (List D)
  | .loc n => cellL S n
  | .cst xs => some xs
  | _ => none
theorem lstD_ok {mg : Str → Option Value} {K : PySem.W.Frag} {μ : Mu} {S : List Cell} {H : Hp} (h : StoRep mg K μ S H) {d : D} {x : V} {xs : List D} (r : RepV K μ H d x) (hc : lstD S d = some xs) : ∃ p vs, x = .ref p ∧ SqL K H p vs ∧ RepL K μ H xs vs := by
  cases r with
  | loc e =>
    obtain ⟨vs, h1, r⟩ := h.cellL e hc
    exact ⟨_, vs, rfl, .inl h1, r⟩
  | cst ht rl => cases hc; exact ⟨_, _, rfl, ht.sq, rl⟩
  | _ => cases hc
theorem sumT_raw {prog : Program} {w : World} {A : Around} {E : Value → Shared → Prop} {s : Shared} {t : Addr} {its : List Value} {ns : List Int} {Q : Value → Shared → Prop} (hh : A.handled = none) (hl : s.heap.IsTuple t its.toArray) (hi : IntsAre its ns)
    (h : ∀ h' tk t', (∀ b o, s.heap.get? b = some o → h'.get? b = some o) → Q (.int ns.sum t') { s with heap := h', toks := tk }) : wpAny (model prog w) A (call (.builtin "sum") [.ref t]) Q E s := by
  obtain ⟨xs, e⟩ := hi.allInts.items
  have hn : numsOf (intItems xs).toList = ns := by rw [← e]; exact hi.numsOf
  rw [nums_intItems] at hn
  rw [e] at hl
  refine PySem.W.ktm_sumG hh hl fun h' tk t' hk => ?_
  have := h h' tk t' hk
  rw [preSum_eq, List.take_of_length_le (by simp), hn]; exact this
def oSum : OC := fun ds S => match ds with
  | [d] => match (seqD S d).bind intsD with
    | some ns => .ok (.int ns.sum) S
    | none => .stk
  | _ => .stk
theorem cr_sumS {X : Cx} (hc : X.calm = true) : CallR X (.builtin "sum") (fun vs H Q => ∃ (a : Addr) (ns : List Int), vs = [V.ref a] ∧ (SqL X.K H a (ns.map V.int) ∨ SqT X.K H a (ns.map V.int)) ∧ Q (.int ns.sum) H) := by
  intro pins s σ H vs us Q I r h
  obtain ⟨a, ns, rfl, hs | hs, q⟩ := h
  · exact cr_sum hc pins s σ H _ us Q I r ⟨a, ns, rfl, hs, q⟩
  · obtain ⟨its, rv, hl, _⟩ := I.tuple hs
    rw [Vals.ref1 r]
    exact sumT_raw (I.ok.hd hc) (show s.heap.IsTuple a its.toArray from hl) rv.ints fun h' tk t' hk => ⟨.int _, H, I.kept hk, ⟨_, rfl⟩, q⟩
theorem cd_sum (hc : X.calm = true) : CallD X W (.builtin "sum") oSum := by
  refine ⟨_, cr_sumS hc, fun σ H μ S ds vs Q hs r h => ?_⟩
  unfold oSum at h
  split at h
  · split at h
    · rename_i d ns e
      obtain ⟨v, rfl, r1⟩ := r.one
      obtain ⟨xs, e1, e2⟩ := Option.bind_eq_some_iff.mp e
      obtain ⟨p, ys, rfl, hq, rl⟩ := hs.seqD r1 e1
      rw [intsD_ok rl e2] at hq
      exact ⟨p, ns, rfl, hq, h _ H μ .refl hs (.int _)⟩
    · exact h.elim
  · exact h.elim
def oAll : OC := fun ds S => match ds with
  | [d] => match (lstD S d).bind blsD with
    | some bs => .ok (.bl (bs.all id)) S
    | none => .stk
  | _ => .stk
def oAny : OC := fun ds S => match ds with
  | [d] => match (lstD S d).bind blsD with
    | some bs => .ok (.bl (bs.any id)) S
    | none => .stk
  | _ => .stk
theorem cd_all (hc : X.calm = true) : CallD X W (.builtin "all") oAll := by
  refine ⟨_, cr_all hc, fun σ H μ S ds vs Q hs r h => ?_⟩
  unfold oAll at h
  split at h
  · split at h
    · rename_i d ns e
      obtain ⟨v, rfl, r1⟩ := r.one
      obtain ⟨xs, e1, e2⟩ := Option.bind_eq_some_iff.mp e
      obtain ⟨p, ys, rfl, hq, rl⟩ := lstD_ok hs r1 e1
      exact ⟨p, ns, rfl, by rw [← blsD_ok rl e2]; exact hq, h _ H μ .refl hs (.bl _)⟩
    · exact h.elim
  · exact h.elim
theorem cd_any (hc : X.calm = true) : CallD X W (.builtin "any") oAny := by
  refine ⟨_, cr_any hc, fun σ H μ S ds vs Q hs r h => ?_⟩
  unfold oAny at h
  split at h
  · split at h
    · rename_i d ns e
      obtain ⟨v, rfl, r1⟩ := r.one
      obtain ⟨xs, e1, e2⟩ := Option.bind_eq_some_iff.mp e
      obtain ⟨p, ys, rfl, hq, rl⟩ := lstD_ok hs r1 e1
      exact ⟨p, ns, rfl, by rw [← blsD_ok rl e2]; exact hq, h _ H μ .refl hs (.bl _)⟩
    · exact h.elim
  · exact h.elim
/-! isinstance(x, T), T a built-in type -/
def tyD (S : List Cell) : D → Option String
  | .non => some "NoneType"
  | .bl _ => some "bool"
  | .int _ => some "int"
  | .str _ => some "str"
  | .tup _ => some "tuple"
  | .cst _ => some "list"
  | .loc n => (cellL S n).map fun _ => "list"
def isiD (S : List Cell) (T : String) (d : D) : Option Bool := (tyD S d).bind fun t => kitB t T
theorem tyD_ok {μ : Mu} {S : List Cell} {H : Hp} {d : D} {x : V} {t : String} (hs : StoRep X.mg X.K μ S H) (r : RepV X.K μ H d x) (h : tyD S d = some t) : TyX X.K H x (.type t) := by
  cases r with
  | non => cases h; exact .base .non
  | bl c => cases h; exact .base (.bl _)
  | int i => cases h; exact .base (.int _)
  | str y => cases h; exact .base (.str _)
  | tup ht rl =>
    cases h
    rcases ht with (ht | ⟨o, ht⟩) | ⟨o, its, n, hk, hc, _⟩
    · exact .base (.tup ht)
    · exact .fTuple ht
    · exact .kTuple hk hc
  | cst ht rl =>
    cases h
    rcases ht with ⟨o, ht⟩ | ⟨o, its, n, hk, hc, _⟩
    · exact .base (.frz ht)
    · exact .kList hk hc
  | loc e =>
    obtain ⟨xs, hx, rfl⟩ := Option.map_eq_some_iff.mp h
    obtain ⟨vs, h1 | ⟨o, h1⟩, rl⟩ := hs.cellL e hx
    · exact .base (.lst h1)
    · exact .base (.frz h1)
def mIsi (T : String) (m : ME) : ME := fun sd S => (m sd S).bind fun d S1 => match isiD S1 T d with
  | some b => .ok (.bl b) S1
  | none => .stk
theorem se_isi {T : String} {x : Str} {e : Expr} {m : ME} {p p2 pos : Pos} (hm : X.mg "isinstance" = none) (hm2 : X.mg x = none) (he : SE X W e m) (hv : bootBuiltins x = some (.type T) := by decide +kernel) (hg : Gl X "isinstance" := by rfl) (hg2 : Gl X x := by rfl)
    (hn : x ≠ "__name__" := by decide) (hdb : (x == ("__debug__" : Str)) = false := by decide)
    (hst : starEach [e, .Name x p2] X.env = (false, eval e X.env) :: starEach [.Name x p2] X.env := by rfl) : SE X W (.Call (.Name "isinstance" p) [e, .Name x p2] [] pos) (mIsi T m) :=
  (pe_callB call_isi hg hm PyProof.Rows.boot_isinstance (pa_cons he (pa_cons (pe_bltn (v := .ty T) hg2 hm2 hv rfl hn hdb) pa_nil) hst) (he := hst)).impF fun σ H Q ⟨μ, S, sd, hs, hl, h⟩ => tE_bind hs hl h fun d S1 μ1 v H1 hs1 hl1 u1 r1 h1 => by
    split at h1
    · rename_i b e
      obtain ⟨t, e1, e2⟩ := Option.bind_eq_some_iff.mp e
      exact ⟨v, .ty T, .type t, .type T, b, rfl, .ty T, tyD_ok hs1 r1 e1, kit_ty e2, h1 _ H1 μ1 .refl hs1 (.bl _)⟩
    · exact h1.elim
end
end Fx

namespace Fx
open PySem PySem.Spec PyProof.Rows L2

/-! ### subscripts, slices -/
section
variable {X : Cx} {W : WX}
def oIx : O2 := fun d e S => match d, e with
  | .str x, .int i => if x.length ≤ sizeLine then optR ((atI x i).map fun c => .str [c]) S else .stk
  | d, .int i => optR ((seqD S d).bind fun xs => atI xs i) S
  | _, _ => .stk
theorem atI_rep {K : PySem.W.Frag} {μ : Mu} {H : Hp} {ds : List D} {vs : List V} {i : Int} {d : D} (r : RepL K μ H ds vs) (h : atI ds i = some d) : ∃ v, atI vs i = some v ∧ RepV K μ H d v := by
  unfold atI at h ⊢
  rw [← r.length]
  obtain ⟨j, e1, e2⟩ := Option.bind_eq_some_iff.mp h
  obtain ⟨v, e3, r3⟩ := r.getD e2
  exact ⟨v, by rw [e1]; exact e3, r3⟩
theorem se_ix {a b : Expr} {ma mb : ME} {pos : Pos} (ha : SE X W a ma) (hb : SE X W b mb) (hp : PlainIx b := by intro _ _; rfl) : SE X W (.Subscript a b pos) (mBin oIx ma mb) := by
  refine (pe_ix ix_seq ha hb hp).impF (bin_of ha hb fun σ H μ S d e x y Q hs rx ry h => ?_)
  unfold oIx at h
  split at h
  · rename_i z i
    split at h
    · rename_i hz
      unfold optR at h
      split at h
      · rename_i w ew
        obtain ⟨c, e1, rfl⟩ := Option.map_eq_some_iff.mp ew
        refine .inr (.inr ⟨_, i, c, rx.inv_str, ry.inv_int, by show z.toArray.size ≤ _; simpa using hz, by simpa using e1, h _ H μ .refl hs (.str [c])⟩)
      · exact h.elim
    · exact h.elim
  · rename_i i _
    unfold optR at h
    split at h
    · rename_i w ew
      obtain ⟨xs, e1, e2⟩ := Option.bind_eq_some_iff.mp ew
      obtain ⟨p, vs, rfl, hq, rl⟩ := hs.seqD rx e1
      obtain ⟨v, e3, r3⟩ := atI_rep rl e2
      rcases hq with hq | hq
      · exact .inl ⟨p, vs, i, v, rfl, ry.inv_int, hq, e3, h _ H μ .refl hs r3⟩
      · exact .inr (.inl ⟨p, vs, i, v, rfl, ry.inv_int, hq, e3, h _ H μ .refl hs r3⟩)
    · exact h.elim
  · exact h.elim
abbrev MO := Sl → List Cell → Res (Option Int)
def tO (X : Cx) (W : WX) (m : MO) : TO := fun σ H Q => ∃ μ S sd, StoRep X.mg X.K μ S H ∧ SlRep X.K μ H sd σ ∧ FinA X.mg X.K (fun _ _ a b => a = b) (fun c d H' => W c d σ H') μ H (m sd S) Q
abbrev SO (X : Cx) (W : WX) (e : Option Expr) (m : MO) : Prop := PO X e (tO X W m)
theorem _root_.L2.PO.impF {X : Cx} {e : Option Expr} {t t' : TO} (h : PO X e t) (i : ∀ σ H Q, t' σ H Q → t σ H Q) : PO X e t' := ⟨fun pins s σ H Q I q => h.run pins s σ H Q I (i σ H Q q)⟩
def mNoPart : MO := fun _ S => .ok none S
def intD : D → Option Int | .int i => some i | _ => none
def mPart (m : ME) : MO := fun sd S => (m sd S).bind fun d S1 => match intD d with | some i => .ok (some i) S1 | none => .stk
theorem so_none : SO X W none mNoPart := po_none.impF fun σ H Q ⟨μ, S, sd, hs, hl, h⟩ => h none H μ .refl hs rfl
theorem so_some {e : Expr} {m : ME} (he : SE X W e m) : SO X W (some e) (mPart m) :=
  (po_some he).impF fun σ H Q ⟨μ, S, sd, hs, hl, h⟩ => tE_bind (Rep' := fun _ _ a b => a = b) hs hl h fun d S1 μ1 v H1 hs1 hl1 u1 r1 h1 => by
    cases r1 with
    | int i => exact ⟨i, rfl, h1 (some i) H1 μ1 .refl hs1 rfl⟩
    | _ => exact h1.elim
theorem tO_bind {α δ : Type} {Rep' : Mu → Hp → α → δ → Prop} {m : MO} {f : Option Int → List Cell → Res α} {σ : St} {H : Hp} {μ : Mu} {S : List Cell} {sd : Sl} {Q : δ → Hp → Prop} {Q' : Option Int → Hp → Prop} (hs : StoRep X.mg X.K μ S H) (hl : SlRep X.K μ H sd σ)
    (h : FinA X.mg X.K Rep' (fun c d H' => W c d σ H') μ H ((m sd S).bind f) Q)
    (k : ∀ d S' μ' H', StoRep X.mg X.K μ' S' H' → SlRep X.K μ' H' sd σ → Up μ H μ' H' → FinA X.mg X.K Rep' (fun c d H' => W c d σ H') μ' H' (f d S') Q → Q' d H') : tO X W m σ H Q' := by
  refine ⟨μ, S, sd, hs, hl, ?_⟩
  have h' := FinA.bind (Rep := fun _ _ (a b : Option Int) => a = b) h
  generalize hr : m sd S = r at h h'
  cases r with
  | ok d S' => exact fun v H' μ' u s r => (show d = v from r) ▸ k d S' μ' H' s (hl.up u) u (h' v H' μ' u s r)
  | exc x S' => exact h'
  | stk => exact h'
def cutG {α : Type} (xs : List α) (lo hi : Option Int) : List α := (xs.drop (HT.sIx xs.length 0 lo)).take (HT.sIx xs.length xs.length hi - HT.sIx xs.length 0 lo)
theorem cutG_whole {α : Type} {xs : List α} {lo hi : Option Int} (h : HT.sIx xs.length 0 lo = 0 ∧ HT.sIx xs.length xs.length hi = xs.length) : cutG xs lo hi = xs := by
  unfold cutG
  rw [h.1, h.2]
  simp
def oSl (d : D) (lo hi : Option Int) (S : List Cell) : Res D := match d with
  | .tup xs => .ok (.tup (cutG xs lo hi)) S
  | .str x => if x.length ≤ sizeLine then .ok (.str (cutG x lo hi)) S else .stk
  | .cst xs => .ok (.loc S.length) (S ++ [.lst (cutG xs lo hi)])
  | .loc n => match cellL S n with
    | some xs => .ok (.loc S.length) (S ++ [.lst (cutG xs lo hi)])
    | none => .stk
  | _ => .stk
def mSlice (m : ME) (lo hi : MO) : ME := fun sd S => (m sd S).bind fun d S1 => (lo sd S1).bind fun l S2 => (hi sd S2).bind fun h S3 => oSl d l h S3
theorem se_slice {e : Expr} {lo hi : Option Expr} {m : ME} {ml mh : MO} {p2 pos : Pos} (he : SE X W e m) (hl : SO X W lo ml) (hu : SO X W hi mh) : SE X W (.Subscript e (.Slice lo hi none p2) pos) (mSlice m ml mh) :=
  (pe_slice (sl_list.or (sl_tupA.or sl_str)) he hl hu).impF fun σ H Q ⟨μ, S, sd, hs, hl, h⟩ => tE_bind hs hl h fun d S1 μ1 v H1 hs1 hl1 u1 r1 h1 =>
    tO_bind hs1 hl1 h1 fun l S2 μ2 H2 hs2 hl2 u2 h2 => tO_bind hs2 hl2 h2 fun u S3 μ3 H3 hs3 hl3 u3 h3 => by
      have r3 := (r1.up u2).up u3
      unfold oSl at h3
      split at h3
      · cases r3 with
        | tup ht rl =>
          rename_i a xs vs
          have el := rl.length
          refine .inr (.inl ⟨_, _, rfl, ht, fun hw => ?_, fun hw p hp => ?_⟩)
          · rw [← el] at hw
            rw [cutG_whole hw] at h3
            exact h3 _ H3 μ3 .refl hs3 (.tup ht rl)
          · refine h3 (.ref p) _ μ3 (up_tmp hp) (hs3.tmp hp) (.tup (SqT.of upd_same) ?_)
            unfold cutG cutV
            rw [el]
            exact ((rl.drop _).take _).up (up_tmp hp)
      · split at h3
        · rename_i x hz
          cases r3
          refine .inr (.inr ⟨_, rfl, by show x.toArray.size ≤ _; simpa using hz, ?_⟩)
          have ex : cutS ⟨x.toArray⟩ l u = ⟨(cutG x l u).toArray⟩ := by
            unfold cutS cutG
            have e0 : Str.length ⟨x.toArray⟩ = x.length := by show x.toArray.size = _; simp
            simp only [e0]
          rw [ex]
          exact h3 _ H3 μ3 .refl hs3 (.str _)
        · exact h3.elim
      · cases r3 with
        | cst hq rl =>
          refine .inl ⟨_, _, rfl, hq.sq, fun p hp => ?_⟩
          refine h3 (.ref p) _ (μ3 ++ [p]) (up_new hp) (hs3.alloc hp ⟨_, upd_same, ?_⟩) (.loc (by rw [← hs3.len]; simp))
          unfold cutG cutV
          rw [rl.length]
          exact ((rl.drop _).take _).up (up_new hp)
      · split at h3
        · rename_i n xs ec
          cases r3 with
          | loc en =>
            obtain ⟨vs, hq, rl⟩ := hs3.cellL en ec
            refine .inl ⟨_, vs, rfl, .inl hq, fun p hp => ?_⟩
            refine h3 (.ref p) _ (μ3 ++ [p]) (up_new hp) (hs3.alloc hp ⟨_, upd_same, ?_⟩) (.loc (by rw [← hs3.len]; simp))
            unfold cutG cutV
            rw [rl.length]
            exact ((rl.drop _).take _).up (up_new hp)
        · exact h3.elim
      · exact h3.elim
end

/-! ### + and * of ints, texts, tuples, lists -/
def mlst (S : List Cell) (n : Nat) : Option (List D) := match S[n]? with
  | some (.lst xs) => some xs
  | _ => none
theorem mlst_ok {mg : Str → Option Value} {K : PySem.W.Frag} {μ : Mu} {S : List Cell} {H : Hp} (h : StoRep mg K μ S H) {n : Nat} {a : Addr} {xs : List D} (e : μ[n]? = some a) (hc : mlst S n = some xs) : ∃ vs, H a = some (.lst vs) ∧ RepL K μ H xs vs := by
  unfold mlst at hc
  split at hc
  · rename_i ys es
    cases hc
    exact h.at_ n _ a es e
  · cases hc
section
variable {X : Cx} {W : WX}
def oAdd : O2 := fun d e S => match d, e with
  | .int i, .int j => .ok (.int (i + j)) S
  | .str x, .str y => if x.length + y.length ≤ sizeLine then .ok (.str (x ++ y)) S else .stk
  | .tup x, .tup y => if x.length + y.length ≤ sizeLine then .ok (.tup (x ++ y)) S else .stk
  | .loc n, .loc m => match mlst S n, mlst S m with
    | some x, some y => if x.length + y.length ≤ sizeLine then .ok (.loc S.length) (S ++ [.lst (x ++ y)]) else .stk
    | _, _ => .stk
  | _, _ => .stk
theorem str_app (x y : List Nat) : (⟨x.toArray⟩ : Str) ++ (⟨y.toArray⟩ : Str) = ⟨(x ++ y).toArray⟩ := by
  show (⟨x.toArray ++ y.toArray⟩ : Str) = _
  simp
theorem od_add : OpD X W (binaryOp .Add) oAdd := by
  refine ⟨_, (op_add.or op_add_str).or (op_catA.or op_cat), fun σ H μ S d e x y Q hs rx ry h => ?_⟩
  unfold oAdd at h
  split at h
  · exact .inl (.inl ⟨_, _, rx.inv_int, ry.inv_int, h _ H μ .refl hs (.int _)⟩)
  · split at h
    · rename_i hz
      refine .inl (.inr ⟨_, _, rx.inv_str, ry.inv_str, ?_, ?_⟩)
      · show (List.toArray _).size + (List.toArray _).size ≤ _
        simpa using hz
      · rw [str_app]
        exact h _ H μ .refl hs (.str _)
    · exact h.elim
  · split at h
    · rename_i xs ys hz
      cases rx with
      | tup hx rlx =>
        cases ry with
        | tup hy rly =>
          refine .inr (.inl ⟨_, _, _, _, rfl, rfl, hx, hy, by rw [← rlx.length, ← rly.length]; exact hz, fun e => ?_, fun _ e => ?_, fun _ _ p hp => ?_⟩)
          · subst e
            cases rlx
            exact h _ H μ .refl hs (.tup hy rly)
          · subst e
            cases rly
            rw [List.append_nil] at h
            exact h _ H μ .refl hs (.tup hx rlx)
          · exact h (.ref p) _ μ (up_tmp hp) (hs.tmp hp) (.tup (SqT.of upd_same) ((rlx.append rly).up (up_tmp hp)))
    · exact h.elim
  · split at h
    · rename_i n m xs ys e1 e2
      split at h
      · rename_i hz
        cases rx with
        | loc en =>
          cases ry with
          | loc em =>
            obtain ⟨vs, hv, rlx⟩ := mlst_ok hs en e1
            obtain ⟨ws, hw, rly⟩ := mlst_ok hs em e2
            refine .inr (.inr ⟨_, _, vs, ws, rfl, rfl, hv, hw, by rw [← rlx.length, ← rly.length]; exact hz, fun p hp => ?_⟩)
            exact h (.ref p) _ (μ ++ [p]) (up_new hp) (hs.alloc hp ⟨_, upd_same, (rlx.append rly).up (up_new hp)⟩) (.loc (by rw [← hs.len]; simp))
      · exact h.elim
    · exact h.elim
  · exact h.elim
/-- list * int -/
def oMulL : O2 := fun d e S => match d, e with
  | .int i, .int j => if cMul i j then .ok (.int (i * j)) S else .stk
  | .loc n, .int k => match mlst S n with
    | some x => if -(2 ^ 63) ≤ k ∧ k < 2 ^ 63 ∧ x.length * k.toNat ≤ sizeLine then .ok (.loc S.length) (S ++ [.lst (List.replicate k.toNat x).flatten]) else .stk
    | _ => .stk
  | _, _ => .stk
theorem rep_flat {K : PySem.W.Frag} {μ : Mu} {H : Hp} {ds : List D} {vs : List V} (r : RepL K μ H ds vs) : ∀ k, RepL K μ H (List.replicate k ds).flatten (List.replicate k vs).flatten
  | 0 => .nil
  | k + 1 => by
    rw [List.replicate_succ, List.replicate_succ, List.flatten_cons, List.flatten_cons]
    exact r.append (rep_flat r k)
theorem od_mulL : OpD X W (binaryOp .Mult) oMulL := by
  refine ⟨_, op_mul.or op_rep, fun σ H μ S d e x y Q hs rx ry h => ?_⟩
  unfold oMulL at h
  split at h
  · split at h
    · rename_i hc
      exact .inl ⟨_, _, rx.inv_int, ry.inv_int, cMul_ok hc, h _ H μ .refl hs (.int _)⟩
    · exact h.elim
  · split at h
    · split at h
      · rename_i k _ xs e1 hz
        cases rx with
        | loc en =>
          obtain ⟨vs, hv, rl⟩ := mlst_ok hs en e1
          refine .inr ⟨_, k, vs, rfl, ry.inv_int, hv, hz.1, hz.2.1, by rw [← rl.length]; exact hz.2.2, fun p hp => ?_⟩
          exact h (.ref p) _ (μ ++ [p]) (up_new hp) (hs.alloc hp ⟨_, upd_same, (rep_flat rl _).up (up_new hp)⟩) (.loc (by rw [← hs.len]; simp))
      · exact h.elim
    · exact h.elim
  · exact h.elim

/-! ### equality, to any depth -/
def pyD : Nat → List Cell → D → Option PyData
  | _, _, .non => some .none
  | _, _, .bl b => some (.bool b)
  | _, _, .int i => some (.int i)
  | _, _, .str x => if x.all (· < 0x110000) then some (.str ⟨x.toArray⟩) else none
  | n + 1, S, .tup l => (l.mapM (pyD n S)).map .tuple
  | n + 1, S, .cst l => (l.mapM (pyD n S)).map .list
  | n + 1, S, .loc k => (cellL S k).bind fun xs => (xs.mapM (pyD n S)).map .list
  | _, _, _ => none
end
end Fx

namespace Fx
open PySem PySem.Spec PyProof.Rows L2

/-! ### equality -/
section
variable {mg : Str → Option Value} {K : PySem.W.Frag} {μ : Mu} {S : List Cell} {H : Hp}
theorem pyL_ok {n : Nat} (ih : ∀ {d : D} {v : V} {p : PyData}, RepV K μ H d v → pyD n S d = some p → Dp K H v p ∧ p.canLay0 = true ∧ p.depth ≤ n) : ∀ {ds : List D} {vs : List V} {ps : List PyData}, RepL K μ H ds vs → ds.mapM (pyD n S) = some ps →
    DpAll K H vs ps ∧ PyData.canLayAll0 ps = true ∧ PyData.depthAll ps ≤ n
  | _, _, _, .nil, h => by
    cases h
    exact ⟨.nil, rfl, Nat.zero_le _⟩
  | d :: ds, v :: vs, ps, .cons h r, e => by
    rw [List.mapM_cons] at e
    cases e1 : pyD n S d with
    | none => rw [e1] at e; cases e
    | some p =>
      rw [e1] at e
      cases e2 : ds.mapM (pyD n S) with
      | none => rw [e2] at e; cases e
      | some qs =>
        rw [e2] at e
        cases e
        obtain ⟨a1, a2, a3⟩ := ih h e1
        obtain ⟨b1, b2, b3⟩ := pyL_ok @ih r e2
        refine ⟨.cons a1 b1, ?_, ?_⟩
        · show (PyData.canLay0 p && PyData.canLayAll0 qs) = true
          rw [a2, b2]; rfl
        · show max (PyData.depth p) (PyData.depthAll qs) ≤ n
          omega
theorem pyD_ok (hs : StoRep mg K μ S H) : ∀ (n : Nat) {d : D} {v : V} {p : PyData}, RepV K μ H d v → pyD n S d = some p → Dp K H v p ∧ p.canLay0 = true ∧ p.depth ≤ n := by
  intro n
  induction n with
  | zero =>
    intro d v p r e
    cases r with
    | non => cases e; exact ⟨.non, rfl, Nat.zero_le _⟩
    | bl b => cases e; exact ⟨.bl b, rfl, Nat.zero_le _⟩
    | int b => cases e; exact ⟨.int b, rfl, Nat.zero_le _⟩
    | str x =>
      have e : (if x.all (· < 0x110000) then some (PyData.str ⟨x.toArray⟩) else none) = some p := e
      split at e
      · rename_i hx
        cases e
        exact ⟨.str _, by show PyData.strOk _ = true; unfold PyData.strOk; simpa using hx, Nat.zero_le _⟩
      · cases e
    | tup _ _ => cases e
    | cst _ _ => cases e
    | loc _ => cases e
  | succ n ih =>
    intro d v p r e
    cases r with
    | non => cases e; exact ⟨.non, rfl, Nat.zero_le _⟩
    | bl b => cases e; exact ⟨.bl b, rfl, Nat.zero_le _⟩
    | int b => cases e; exact ⟨.int b, rfl, Nat.zero_le _⟩
    | str x =>
      have e : (if x.all (· < 0x110000) then some (PyData.str ⟨x.toArray⟩) else none) = some p := e
      split at e
      · rename_i hx
        cases e
        exact ⟨.str _, by show PyData.strOk _ = true; unfold PyData.strOk; simpa using hx, Nat.zero_le _⟩
      · cases e
    | tup ht rl =>
      obtain ⟨ps, e1, rfl⟩ := Option.map_eq_some_iff.mp (show Option.map PyData.tuple (List.mapM (pyD n S) _) = some p from e)
      obtain ⟨a, b, c⟩ := pyL_ok (fun r e => ih r e) rl e1
      exact ⟨.tup ht a, b, Nat.succ_le_succ c⟩
    | cst ht rl =>
      obtain ⟨ps, e1, rfl⟩ := Option.map_eq_some_iff.mp (show Option.map PyData.list (List.mapM (pyD n S) _) = some p from e)
      obtain ⟨a, b, c⟩ := pyL_ok (fun r e => ih r e) rl e1
      exact ⟨.lst ht.sq a, b, Nat.succ_le_succ c⟩
    | loc en =>
      obtain ⟨xs, e0, e⟩ := Option.bind_eq_some_iff.mp (show Option.bind (cellL S _) (fun xs => (xs.mapM (pyD n S)).map PyData.list) = some p from e)
      obtain ⟨ps, e1, rfl⟩ := Option.map_eq_some_iff.mp e
      obtain ⟨vs, h1, rl⟩ := hs.cellL en e0
      obtain ⟨a, b, c⟩ := pyL_ok (fun r e => ih r e) rl e1
      exact ⟨.lst (.inl h1) a, b, Nat.succ_le_succ c⟩
end
def eqD (S : List Cell) (d e : D) : Option Bool := (pyD 60 S d).bind fun p => (pyD 60 S e).map fun q => PyData.eqv p q
def oEq : O2 := fun d e S => match eqD S d e with | some b => .ok (.bl b) S | none => .stk
def oNe : O2 := fun d e S => match eqD S d e with | some b => .ok (.bl (!b)) S | none => .stk
section
variable {X : Cx} {W : WX}
theorem eqD_ok {μ : Mu} {S : List Cell} {H : Hp} {d e : D} {x y : V} {b : Bool} (hs : StoRep X.mg X.K μ S H) (rx : RepV X.K μ H d x) (ry : RepV X.K μ H e y) (h : eqD S d e = some b) :
    ∃ p q, Dp X.K H x p ∧ Dp X.K H y q ∧ SeqAt.shaped p = true ∧ SeqAt.shaped q = true ∧ b = PyData.eqv p q := by
  obtain ⟨p, e1, e2⟩ := Option.bind_eq_some_iff.mp h
  obtain ⟨q, e3, e4⟩ := Option.map_eq_some_iff.mp e2
  obtain ⟨a1, a2, a3⟩ := pyD_ok hs 60 rx e1
  obtain ⟨b1, b2, b3⟩ := pyD_ok hs 60 ry e3
  exact ⟨p, q, a1, b1, Bool.and_eq_true_iff.mpr ⟨a2, decide_eq_true (by omega)⟩, Bool.and_eq_true_iff.mpr ⟨b2, decide_eq_true (by omega)⟩, e4.symm⟩
theorem od_eq (hu : X.A.units + 64 < cLine) : OpD X W (compareOp .Eq) oEq := by
  refine ⟨_, op_eqD hu, fun σ H μ S d e x y Q hs rx ry h => ?_⟩
  unfold oEq at h
  split at h
  · rename_i b eb
    obtain ⟨p, q, h1, h2, h3, h4, rfl⟩ := eqD_ok hs rx ry eb
    exact ⟨p, q, h1, h2, h3, h4, h _ H μ .refl hs (.bl _)⟩
  · exact h.elim
theorem od_ne (hu : X.A.units + 64 < cLine) : OpD X W (compareOp .NotEq) oNe := by
  refine ⟨_, op_neD hu, fun σ H μ S d e x y Q hs rx ry h => ?_⟩
  unfold oNe at h
  split at h
  · rename_i b eb
    obtain ⟨p, q, h1, h2, h3, h4, rfl⟩ := eqD_ok hs rx ry eb
    exact ⟨p, q, h1, h2, h3, h4, h _ H μ .refl hs (.bl _)⟩
  · exact h.elim

/-! ### in, not in: flat items of a list or tuple; a sign or text in a text -/
def flatD : D → Bool | .non => true | .bl _ => true | .int _ => true | .str _ => true | _ => false
def eqF : D → D → Bool
  | .non, .non => true
  | .bl a, .bl b => a == b
  | .bl a, .int b => (if a then 1 else 0) == b
  | .int a, .bl b => a == (if b then 1 else 0)
  | .int a, .int b => a == b
  | .str a, .str b => a == b
  | _, _ => false
theorem flatD_ok {K : PySem.W.Frag} {μ : Mu} {H : Hp} {d : D} {x : V} (r : RepV K μ H d x) : flatV x = flatD d := by cases r <;> rfl
theorem str_beq (x y : List Nat) : ((⟨x.toArray⟩ : Str) == (⟨y.toArray⟩ : Str)) = (x == y) := by
  rw [Bool.eq_iff_iff]; simp
theorem eqF_ok {K : PySem.W.Frag} {μ : Mu} {H : Hp} {d e : D} {x y : V} (r : RepV K μ H d x) (r' : RepV K μ H e y) : eqV x y = eqF d e := by
  cases r <;> cases r' <;> first | rfl | exact str_beq _ _
theorem flatL_ok {K : PySem.W.Frag} {μ : Mu} {H : Hp} : ∀ {ds : List D} {vs : List V}, RepL K μ H ds vs → vs.all flatV = ds.all flatD
  | _, _, .nil => rfl
  | _, _, .cons h r => by rw [List.all_cons, List.all_cons, flatD_ok h, flatL_ok r]
theorem anyF_ok {K : PySem.W.Frag} {μ : Mu} {H : Hp} {d : D} {x : V} (rx : RepV K μ H d x) : ∀ {ds : List D} {vs : List V}, RepL K μ H ds vs → inV x vs = ds.any fun e => eqF e d
  | _, _, .nil => rfl
  | _, _, .cons h r => by
    have ih := anyF_ok rx r
    unfold inV at ih ⊢
    rw [List.any_cons, List.any_cons, eqF_ok h rx, ih]
def inD (S : List Cell) (d e : D) : Option Bool := match d, e with
  | .str [c], .str z => some (decide (c ∈ z))
  | d, e => (seqD S e).bind fun xs => if flatD d && xs.all flatD then some (xs.any fun y => eqF y d) else none
def oIn : O2 := fun d e S => match inD S d e with | some b => .ok (.bl b) S | none => .stk
def oNotIn : O2 := fun d e S => match inD S d e with | some b => .ok (.bl (!b)) S | none => .stk
theorem od_in : OpD X W (compareOp .In) oIn := by
  refine ⟨_, op_in_seq.or op_in_sign, fun σ H μ S d e x y Q hs rx ry h => ?_⟩
  unfold oIn at h
  split at h
  · rename_i b eb
    unfold inD at eb
    split at eb
    · cases eb
      exact .inr ⟨_, _, rx.inv_str, ry.inv_str, by simpa using h _ H μ .refl hs (.bl _)⟩
    · obtain ⟨xs, e1, e2⟩ := Option.bind_eq_some_iff.mp eb
      split at e2
      · rename_i hf
        cases e2
        simp only [Bool.and_eq_true] at hf
        obtain ⟨p, vs, rfl, hq, rl⟩ := hs.seqD ry e1
        refine .inl ⟨p, vs, rfl, hq, by rw [flatD_ok rx]; exact hf.1, by rw [flatL_ok rl]; exact hf.2, ?_⟩
        rw [anyF_ok rx rl]
        exact h _ H μ .refl hs (.bl _)
      · cases e2
  · exact h.elim
theorem od_notIn : OpD X W (compareOp .NotIn) oNotIn := by
  refine ⟨_, op_notIn_seq.or op_notIn_sign, fun σ H μ S d e x y Q hs rx ry h => ?_⟩
  unfold oNotIn at h
  split at h
  · rename_i b eb
    unfold inD at eb
    split at eb
    · cases eb
      exact .inr ⟨_, _, rx.inv_str, ry.inv_str, by simpa using h _ H μ .refl hs (.bl _)⟩
    · obtain ⟨xs, e1, e2⟩ := Option.bind_eq_some_iff.mp eb
      split at e2
      · rename_i hf
        cases e2
        simp only [Bool.and_eq_true] at hf
        obtain ⟨p, vs, rfl, hq, rl⟩ := hs.seqD ry e1
        refine .inl ⟨p, vs, rfl, hq, by rw [flatD_ok rx]; exact hf.1, by rw [flatL_ok rl]; exact hf.2, ?_⟩
        rw [anyF_ok rx rl]
        exact h _ H μ .refl hs (.bl _)
      · cases e2
  · exact h.elim

/-! ### lists changed: append, item stored -/
def mAppend (o a : ME) : ME := fun sd S => (o sd S).bind fun d S1 => match d with
  | .loc n => match mlst S1 n with
    | none => .stk
    | some _ => (a sd S1).bind fun e S2 => match mlst S2 n with
      | some xs => if xs.length < sizeLine then .ok .non (S2.set n (.lst (xs ++ [e]))) else .stk
      | none => .stk
  | _ => .stk
theorem se_append {o a : Expr} {mo ma : ME} {apos cpos : Pos} (ho : SE X W o mo) (ha : SE X W a ma)
    (hbase : attributeBase o "append" X.env (eval o X.env) = eval o X.env := by rfl)
    (hfew : ((backTo cpos (starEach [a] X.env)).all (fun x => !x.1) && (backToKw cpos (keywordEach [] X.env)).all (fun x => x.1.isSome)
      && decide (([a] : List Expr).length + ([] : List Keyword).length + (if ([] : List Keyword).isEmpty then 0 else 1) < 30)) = true := by rfl)
    (hline : (apos.endLine == cpos.line) = true := by rfl) (hst : starEach [a] X.env = (false, eval a X.env) :: starEach [] X.env := by rfl) (hplain : (backTo cpos (starEach [] X.env)).any (·.1) = false := by rfl) :
    SE X W (.Call (.Attribute o "append" apos) [a] [] cpos) (mAppend mo ma) :=
  (pe_bm PySem.F.plainAttrs_list PySem.F.slot_list_append PySem.F.type_list_append mt_append ho (pa_cons ha pa_nil hst) hbase hfew hline hst hplain).impF fun σ H Q ⟨μ, S, sd, hs, hl, h⟩ => tE_bind hs hl h fun d S1 μ1 v H1 hs1 hl1 u1 r1 h1 => by
    cases r1 with
    | loc en =>
      simp only at h1
      split at h1
      · exact h1.elim
      · rename_i n a xs0 e0
        obtain ⟨vs0, hv0, _⟩ := mlst_ok hs1 en e0
        refine ⟨.inl ⟨rfl, vs0, SqL.of hv0⟩, tE_bind hs1 hl1 h1 fun e S2 μ2 w H2 hs2 hl2 u2 r2 h2 => ?_⟩
        split at h2
        · split at h2
          · rename_i xs e1 hz
            have en2 := u2.mu _ _ en
            obtain ⟨vs, hv, rl⟩ := mlst_ok hs2 en2 e1
            refine ⟨_, vs, w, rfl, rfl, hv, by rw [← rl.length]; exact hz, ?_⟩
            exact h2 .non _ μ2 (up_put (List.mem_of_getElem? en2) hv) (hs2.put en2 hv (rl.snoc r2)) .non
          · exact h2.elim
        · exact h2.elim
    | _ => exact h1.elim
theorem tE_bindG {m : ME} {f : D → List Cell → Res Sl} {σ : St} {H : Hp} {μ : Mu} {S : List Cell} {sd : Sl} {Q : St → Hp → Prop} {Q' : VK} (hs : StoRep X.mg X.K μ S H) (hl : SlRep X.K μ H sd σ)
    (h : FinA X.mg X.K (fun μ H => SlRep X.K μ H) (fun c d H' => W c d σ H') μ H ((m sd S).bind f) Q)
    (k : ∀ d S' μ' v H', StoRep X.mg X.K μ' S' H' → SlRep X.K μ' H' sd σ → Up μ H μ' H' → RepV X.K μ' H' d v → FinA X.mg X.K (fun μ H => SlRep X.K μ H) (fun c d H' => W c d σ H') μ' H' (f d S') Q → Q' v H') : tE X W m σ H Q' := tE_bind hs hl h k
/-- o[i] = v of a list -/
def gSubL (o i : ME) : MG := fun v sd S => (o sd S).bind fun d S1 => (i sd S1).bind fun e S2 => match d, e with
  | .loc n, .int k => match mlst S2 n with
    | some xs => match ixN xs.length k with
      | some j => .ok sd (S2.set n (.lst (xs.set j v)))
      | none => .stk
    | none => .stk
  | _, _ => .stk
theorem sg_sub {o i : Expr} {mo mi : ME} {pos : Pos} (ho : SE X W o mo) (hi : SE X W i mi)
    (ha : ∀ v, assign (.Subscript o i pos) X.env v = (do
      let ov ← holding [v] (eval o X.env)
      let iv ← holding [v, ov] (eval i X.env)
      standAt pos
      holding [v, ov, iv] (setItem ov iv v)
      release [v, ov, iv] []) := by intro _; rfl) : SG X W (.Subscript o i pos) (gSubL mo mi) :=
  (pg_sub ho hi set_list ha).impF fun v σ H Q ⟨μ, S, sd, d, hs, hl, r, h⟩ => tE_bindG hs hl h fun d1 S1 μ1 v1 H1 hs1 hl1 u1 r1 h1 => tE_bindG hs1 hl1 h1 fun d2 S2 μ2 v2 H2 hs2 hl2 u2 r2 h2 => by
    split at h2
    · rename_i n k
      split at h2
      · rename_i xs e1
        split at h2
        · rename_i j ej
          cases r1 with
          | loc en =>
            have en2 := u2.mu _ _ en
            obtain ⟨vs, hv, rl⟩ := mlst_ok hs2 en2 e1
            refine ⟨_, vs, k, j, rfl, r2.inv_int, hv, by rw [← rl.length]; exact ej, ?_⟩
            have up := up_put (μ := μ2) (o := .lst (vs.set j v)) (List.mem_of_getElem? en2) hv
            exact h2 σ _ μ2 up (hs2.put en2 hv (rl.set (((r.up u1).up u2)) j)) (hl2.up up)
        · exact h2.elim
      · exact h2.elim
    · exact h2.elim

/-! ### targets of several names -/
def gsNil : MGs := fun ds sd S => match ds with | [] => .ok sd S | _ => .stk
def gsCons (g : MG) (r : MGs) : MGs := fun ds sd S => match ds with | d :: rest => (g d sd S).bind fun sd1 S1 => r rest sd1 S1 | _ => .stk
abbrev SGs (X : Cx) (W : WX) (tgs : List Expr) (g : MGs) : Prop := PGs X tgs (tGs X W g)
theorem _root_.L2.PGs.impF {X : Cx} {e : List Expr} {t t' : TGs} (h : PGs X e t) (i : ∀ v σ H Q, t' v σ H Q → t v σ H Q) : PGs X e t' := ⟨fun pins s σ H v u Q I r q => h.run pins s σ H v u Q I r (i v σ H Q q)⟩
theorem sgs_nil : SGs X W [] gsNil := pgs_nil.impF fun vs σ H Q ⟨μ, S, sd, ds, hs, hl, r, h⟩ => by
  cases r with
  | nil => exact ⟨rfl, h σ H μ .refl hs hl⟩
  | cons _ _ => exact h.elim
/-- a target that raises nothing -/
def NoEx (g : MG) : Prop := ∀ d sd S x S', g d sd S ≠ .exc x S'
theorem sgs_cons {e : Expr} {es : List Expr} {g : MG} {r : MGs} (h1 : SG X W e g) (h2 : SGs X W es r) (nx : ∀ d sd S x S', g d sd S ≠ .exc x S') (nr : ∀ d sd S x S', r d sd S ≠ .exc x S')
    (hst : (assignEach (e :: es) X.env).map (·.2) = assign e X.env :: (assignEach es X.env).map (·.2) := by rfl) : SGs X W (e :: es) (gsCons g r) :=
  (pgs_cons h1 h2 hst).impF fun vs σ H Q ⟨μ, S, sd, ds, hs, hl, rp, h⟩ => by
    cases rp with
    | nil => exact h.elim
    | @cons d v ds vs rd rr =>
      refine ⟨v, vs, rfl, μ, S, sd, d, hs, hl, rd, ?_⟩
      have h : FinA X.mg X.K (fun μ H => SlRep X.K μ H) (fun c d H' => W c d σ H') μ H ((g d sd S).bind fun sd1 S1 => r ds sd1 S1) Q := h
      generalize hr : g d sd S = res at h
      cases res with
      | ok sd1 S1 =>
        intro σ' H' μ' u s l
        refine ⟨μ', S1, sd1, ds, s, l, rr.up u, ?_⟩
        have h' : FinA X.mg X.K (fun μ H => SlRep X.K μ H) (fun c d H' => W c d σ H') μ' H' (r ds sd1 S1) Q := FinA.up u h
        generalize hr2 : r ds sd1 S1 = res2 at h'
        cases res2 with
        | ok sd2 S2 => exact h'
        | exc x S2 => exact absurd hr2 (nr _ _ _ _ _)
        | stk => exact h'
      | exc x S1 => exact absurd hr (nx _ _ _ _ _)
      | stk => exact h
def gTupD (n : Nat) (g : MGs) : MG := fun d sd S => match d with | .tup ds => if ds.length = n then g ds sd S else .stk | _ => .stk
theorem sg_tup {es : List Expr} {k : Nat} {g : MGs} {n : Nat} {pos : Pos} (hc : X.calm = true) (h : SGs X W es g) (hn : (assignEach es X.env).length = n := by rfl) (hst : (assignEach es X.env).findIdx? (·.1) = none := by rfl) : SG X W (.Tuple es k pos) (gTupD n g) :=
  (pg_tup hc h hn hst).impF fun v σ H Q ⟨μ, S, sd, d, hs, hl, r, h⟩ => by
    unfold gTupD at h
    split at h
    · split at h
      · rename_i ds hz
        cases r with
        | tup ht rl => exact ⟨_, _, rfl, ht, by rw [← rl.length]; exact hz, μ, S, sd, ds, hs, hl, rl, h⟩
      · exact h.elim
    · exact h.elim
theorem gN_noex (i : Nat) : ∀ d sd S x S', gN i d sd S ≠ .exc x S' := fun _ _ _ _ _ h => by cases h
theorem gsNil_noex : ∀ d sd S x S', gsNil d sd S ≠ .exc x S' := fun d _ _ _ _ h => by cases d <;> cases h
theorem gsCons_noex {g : MG} {r : MGs} (h1 : ∀ d sd S x S', g d sd S ≠ .exc x S') (h2 : ∀ d sd S x S', r d sd S ≠ .exc x S') : ∀ d sd S x S', gsCons g r d sd S ≠ .exc x S' := fun d sd S x S' h => by
  cases d with
  | nil => cases h
  | cons d ds =>
    have h : ((g d sd S).bind fun sd1 S1 => r ds sd1 S1) = .exc x S' := h
    generalize hr : g d sd S = res at h
    cases res with
    | ok sd1 S1 => exact h2 _ _ _ _ _ h
    | exc y S1 => exact h1 _ _ _ _ _ hr
    | stk => cases h
theorem gTupD_noex {n : Nat} {g : MGs} (h1 : ∀ d sd S x S', g d sd S ≠ .exc x S') : ∀ d sd S x S', gTupD n g d sd S ≠ .exc x S' := fun d sd S x S' h => by
  unfold gTupD at h
  split at h
  · split at h
    · exact h1 _ _ _ _ _ h
    · cases h
  · cases h
/-- a, b = x, y of plain local names -/
def mPar (i j : Nat) (a : MA) : MS := fun sd S => match a sd S with
  | .ok [d, e] S1 => .nx ((sd.set i (some d)).set j (some e)) S1
  | .exc x S1 => .exc x sd S1
  | _ => .stk
theorem ss_par (i j : Nat) {x y : Str} {a b : Expr} {ma : MA} {px py pt pos : Pos} {kt k2 pt2} (hc : X.calm = true) (hN : X.N.Nodup) (ha : SA X W [a, b] ma) (hij : i ≠ j := by decide) (hi : X.N[i]? = some x := by rfl) (hj : X.N[j]? = some y := by rfl)
    (hx : X.env.scope.names.lookup x = some .local := by rfl) (hy : X.env.scope.names.lookup y = some .local := by rfl) (hw : swappedStores [.Tuple [.Name x px, .Name y py] kt pt] (.Tuple [a, b] k2 pt2) X.env = pure (some [x, y]) := by rfl)
    (hs : swapsWithSole [.Tuple [.Name x px, .Name y py] kt pt] (.Tuple [a, b] k2 pt2) pos.line X.env = pure false := by rfl) : SS X W (.Assign [.Tuple [.Name x px, .Name y py] kt pt] (.Tuple [a, b] k2 pt2) pos) (mPar i j ma) :=
  (ps_par hc hN hi hj hij hx hy ha hw hs).impF fun D σ H ⟨μ, S, sd, hs, hl, h⟩ => by
    refine ⟨μ, S, sd, hs, hl, ?_⟩
    unfold mPar at h
    split at h
    · rename_i d e S1 er
      rw [er]
      intro vs H1 μ1 u1 s1 r1
      obtain ⟨v, w, rfl, r2, r3⟩ := r1.two
      exact ⟨v, w, rfl, h _ H1 μ1 u1 s1 (((hl.up u1).set r2).set r3)⟩
    · rename_i x S1 er
      rw [er]
      exact fun c dx H' μ' u s e => h c dx σ H' μ' u s (hl.up u) e
    · exact h.elim
def mPar3 (i j l : Nat) (a : MA) : MS := fun sd S => match a sd S with
  | .ok [d, e, f] S1 => .nx (((sd.set i (some d)).set j (some e)).set l (some f)) S1
  | .exc x S1 => .exc x sd S1
  | _ => .stk
theorem RepL.three {K : PySem.W.Frag} {μ : Mu} {H : Hp} {d e f : D} {vs : List V} (h : RepL K μ H [d, e, f] vs) : ∃ x y z, vs = [x, y, z] ∧ RepV K μ H d x ∧ RepV K μ H e y ∧ RepV K μ H f z := by
  cases h with
  | cons h r =>
    obtain ⟨y, z, rfl, h2, h3⟩ := RepL.two r
    exact ⟨_, y, z, rfl, h, h2, h3⟩
theorem ss_par3 (i j l : Nat) {x y z : Str} {a b c : Expr} {ma : MA} {px py pz pt pos : Pos} {kt k2 pt2} (hc : X.calm = true) (hN : X.N.Nodup) (ha : SA X W [a, b, c] ma) (hij : i ≠ j := by decide) (hil : i ≠ l := by decide) (hjl : j ≠ l := by decide) (hi : X.N[i]? = some x := by rfl) (hj : X.N[j]? = some y := by rfl) (hl : X.N[l]? = some z := by rfl)
    (hx : X.env.scope.names.lookup x = some .local := by rfl) (hy : X.env.scope.names.lookup y = some .local := by rfl) (hz : X.env.scope.names.lookup z = some .local := by rfl) (hw : swappedStores [.Tuple [.Name x px, .Name y py, .Name z pz] kt pt] (.Tuple [a, b, c] k2 pt2) X.env = pure (some [x, y, z]) := by rfl)
    (hs : swapsWithSole [.Tuple [.Name x px, .Name y py, .Name z pz] kt pt] (.Tuple [a, b, c] k2 pt2) pos.line X.env = pure false := by rfl) : SS X W (.Assign [.Tuple [.Name x px, .Name y py, .Name z pz] kt pt] (.Tuple [a, b, c] k2 pt2) pos) (mPar3 i j l ma) :=
  (ps_par3 hc hN hi hj hl hij hil hjl hx hy hz ha hw hs).impF fun D σ H ⟨μ, S, sd, hs, hl, h⟩ => by
    refine ⟨μ, S, sd, hs, hl, ?_⟩
    unfold mPar3 at h
    split at h
    · rename_i d e f S1 er
      rw [er]
      intro vs H1 μ1 u1 s1 r1
      obtain ⟨v, w, z, rfl, r2, r3, r4⟩ := r1.three
      exact ⟨v, w, z, rfl, h _ H1 μ1 u1 s1 ((((hl.up u1).set r2).set r3).set r4)⟩
    · rename_i x S1 er
      rw [er]
      exact fun c dx H' μ' u s e => h c dx σ H' μ' u s (hl.up u) e
    · exact h.elim
end
end Fx

namespace Fx
open PySem PySem.Spec PyProof.Rows L2

/-! ### what is walked -/
structure ItD where
  xs : List D
  g : Option Nat
def ItD.okAt (it : ItD) (S : List Cell) : Prop := match it.g with | none => True | some n => cellL S n = some it.xs
def RepI (mg : Str → Option Value) (K : PySem.W.Frag) (μ : Mu) (H : Hp) (it : ItD) (J : It) : Prop :=
  ∀ μ2 H2 S2, Up μ H μ2 H2 → StoRep mg K μ2 S2 H2 → it.okAt S2 → ∀ i,
    (∀ d, it.xs[i]? = some d → J.go i H2 ∧ ∀ x H3, J.yld i H2 x H3 → Up μ2 H2 μ2 H3 ∧ StoRep mg K μ2 S2 H3 ∧ RepV K μ2 H3 d x) ∧ (it.xs.length ≤ i → J.stop i H2)
abbrev MI := Sl → List Cell → Res ItD
def tI (X : Cx) (W : WX) (m : MI) : TI := fun σ H Q => ∃ μ S sd, StoRep X.mg X.K μ S H ∧ SlRep X.K μ H sd σ ∧ FinA X.mg X.K (RepI X.mg X.K) (fun c d H' => W c d σ H') μ H (m sd S) Q
abbrev SI (X : Cx) (W : WX) (tg iter : Expr) (m : MI) : Prop := PI X tg iter (tI X W m)
theorem _root_.L2.PI.impF {X : Cx} {tg e : Expr} {t t' : TI} (h : PI X tg e t) (i : ∀ σ H Q, t' σ H Q → t σ H Q) : PI X tg e t' := ⟨fun pins s σ H Q I q => h.run pins s σ H Q I (i σ H Q q)⟩
theorem _root_.L2.PI.orF {X : Cx} {tg e : Expr} {t t' : TI} (h : PI X tg e t) (h' : PI X tg e t') : PI X tg e (fun σ H R => t σ H R ∨ t' σ H R) := ⟨fun pins s σ H Q I q => q.elim (h.run pins s σ H Q I) (h'.run pins s σ H Q I)⟩
section
variable {X : Cx} {W : WX} {mg : Str → Option Value} {K : PySem.W.Frag} {μ : Mu} {S : List Cell} {H : Hp}
theorem repI_tup {a : Addr} {ds : List D} {vs : List V} (ht : SqT K H a vs) (rl : RepL K μ H ds vs) : RepI mg K μ H ⟨ds, none⟩ (Itt K a) := by
  intro μ2 H2 S2 u s ok i
  have ht2 := u.sqT ht
  refine ⟨fun d e => ?_, fun hi => ⟨vs, ht2, by rw [← rl.length]; exact hi⟩⟩
  obtain ⟨v, e1, r⟩ := (rl.up u).getD e
  refine ⟨⟨vs, v, ht2, e1⟩, fun x H3 y => ?_⟩
  obtain ⟨rfl, y⟩ := y
  have := y vs ht2
  rw [e1] at this
  cases this
  exact ⟨.refl, s, r⟩
theorem repI_lst {a : Addr} {n : Nat} {ds : List D} (en : μ[n]? = some a) : RepI mg K μ H ⟨ds, some n⟩ (Itl K a) := by
  intro μ2 H2 S2 u s ok i
  obtain ⟨vs, hq, rl⟩ := s.cellL (u.mu _ _ en) (show cellL S2 n = some ds from ok)
  have hq2 : SqL K H2 a vs := .inl hq
  refine ⟨fun d e => ?_, fun hi => ⟨vs, hq2, by rw [← rl.length]; exact hi⟩⟩
  obtain ⟨v, e1, r⟩ := rl.getD e
  refine ⟨⟨vs, v, hq2, e1⟩, fun x H3 y => ?_⟩
  obtain ⟨rfl, y⟩ := y
  have := y vs hq2
  rw [e1] at this
  cases this
  exact ⟨.refl, s, r⟩
theorem repI_cst {a : Addr} {ds : List D} {vs : List V} (ht : SqF K H a vs) (rl : RepL K μ H ds vs) : RepI mg K μ H ⟨ds, none⟩ (Itl K a) := by
  intro μ2 H2 S2 u s ok i
  have ht2 := (u.toUpR.sqF ht).sq
  refine ⟨fun d e => ?_, fun hi => ⟨vs, ht2, by rw [← rl.length]; exact hi⟩⟩
  obtain ⟨v, e1, r⟩ := (rl.up u).getD e
  refine ⟨⟨vs, v, ht2, e1⟩, fun x H3 y => ?_⟩
  obtain ⟨rfl, y⟩ := y
  have := y vs ht2
  rw [e1] at this
  cases this
  exact ⟨.refl, s, r⟩
def rngD (lo : Int) (n : Nat) : List D := (List.range n).map fun k => .int (lo + (k : Nat))
theorem repI_rng {lo : Int} {n : Nat} : RepI mg K μ H ⟨rngD lo n, none⟩ (Itr lo n) := by
  intro μ2 H2 S2 u s ok i
  refine ⟨fun d e => ?_, fun hi => show n ≤ i by simpa [rngD] using hi⟩
  have e' : (rngD lo n)[i]? = some d := e
  have hi : i < n := by
    have := (List.getElem?_eq_some_iff.mp e').1
    simpa [rngD] using this
  have ed : d = .int (lo + (i : Nat)) := by
    simp [rngD, hi] at e'
    exact e'.symm
  refine ⟨hi, fun x H3 y => ?_⟩
  obtain ⟨rfl, rfl⟩ := y
  subst ed
  exact ⟨.refl, s, .int _⟩
def mSeqI (m : ME) : MI := fun sd S => (m sd S).bind fun d S1 => match d with
  | .tup xs => .ok ⟨xs, none⟩ S1
  | .cst xs => .ok ⟨xs, none⟩ S1
  | .loc n => match cellL S1 n with
    | some xs => .ok ⟨xs, some n⟩ S1
    | none => .stk
  | _ => .stk
theorem si_seq {tg e : Expr} {m : ME} (he : SE X W e m) : SI X W tg e (mSeqI m) :=
  ((pi_list he).orF (pi_tup he)).impF fun σ H Q ⟨μ, S, sd, hs, hl, h⟩ => by
    unfold mSeqI at h
    generalize hr : m sd S = r at h
    cases r with
    | stk => exact h.elim
    | exc x S1 => exact .inl ⟨μ, S, sd, hs, hl, by rw [hr]; exact h⟩
    | ok d S1 =>
      cases d with
      | tup xs =>
        refine .inr ⟨μ, S, sd, hs, hl, ?_⟩
        rw [hr]
        intro v H' μ' u s r
        cases r with
        | tup ht rl => exact ⟨_, rfl, ⟨_, ht⟩, h _ H' μ' u s (repI_tup ht rl)⟩
      | cst xs =>
        refine .inl ⟨μ, S, sd, hs, hl, ?_⟩
        rw [hr]
        intro v H' μ' u s r
        cases r with
        | cst ht rl => exact ⟨_, rfl, ⟨_, ht.sq⟩, h _ H' μ' u s (repI_cst ht rl)⟩
      | loc n =>
        have h : FinA X.mg X.K (RepI X.mg X.K) (fun c d H' => W c d σ H') μ H (match cellL S1 n with
          | some xs => .ok ⟨xs, some n⟩ S1
          | none => .stk) Q := h
        split at h
        · rename_i xs ec
          refine .inl ⟨μ, S, sd, hs, hl, ?_⟩
          rw [hr]
          intro v H' μ' u s r
          cases r with
          | loc en =>
            obtain ⟨vs, hq, rl⟩ := s.cellL en ec
            exact ⟨_, rfl, ⟨vs, .inl hq⟩, h _ H' μ' u s (repI_lst en)⟩
        · exact h.elim
      | _ => exact h.elim
def c62 (i : Int) : Bool := decide (-(2 ^ 62) ≤ i) && decide (i < 2 ^ 62)
theorem c62_ok {i : Int} (h : c62 i = true) : -(2 ^ 62) ≤ i ∧ i < 2 ^ 62 := by
  unfold c62 at h
  simp only [Bool.and_eq_true, decide_eq_true_eq] at h
  exact h
def mRng1 (a : MA) : MI := fun sd S => (a sd S).bind fun ds S1 => match ds with
  | [.int j] => if c62 j then .ok ⟨rngD 0 j.toNat, none⟩ S1 else .stk
  | _ => .stk
def mRng2 (a : MA) : MI := fun sd S => (a sd S).bind fun ds S1 => match ds with
  | [.int i, .int j] => if c62 i && c62 j then .ok ⟨rngD i (j - i).toNat, none⟩ S1 else .stk
  | _ => .stk
theorem si_range1 {tg a : Expr} {ma : MA} {p pos : Pos} (hm : X.mg "range" = none) (ha : SA X W [a] ma) (hg : Gl X "range" := by rfl) (hs : starEach [a] X.env = [(false, eval a X.env)] := by rfl) : SI X W tg (.Call (.Name "range" p) [a] [] pos) (mRng1 ma) :=
  (pi_range1 hg hm ha hs).impF fun σ H Q ⟨μ, S, sd, hs, hl, h⟩ => tA_bind (Rep' := RepI X.mg X.K) hs hl h fun ds S1 μ1 vs H1 hs1 hl1 u1 r1 h1 => by
    split at h1
    · split at h1
      · rename_i j hc
        obtain ⟨v, rfl, r⟩ := r1.one
        exact ⟨j, by rw [r.inv_int], (c62_ok hc).1, (c62_ok hc).2, h1 _ H1 μ1 .refl hs1 repI_rng⟩
      · exact h1.elim
    · exact h1.elim
theorem si_range2 {tg a b : Expr} {ma : MA} {p pos : Pos} (hm : X.mg "range" = none) (ha : SA X W [a, b] ma) (hg : Gl X "range" := by rfl) (hs : starEach [a, b] X.env = [(false, eval a X.env), (false, eval b X.env)] := by rfl) (hs2 : starEach [b] X.env = [(false, eval b X.env)] := by rfl) : SI X W tg (.Call (.Name "range" p) [a, b] [] pos) (mRng2 ma) :=
  (pi_range2 hg hm ha hs hs2).impF fun σ H Q ⟨μ, S, sd, hs, hl, h⟩ => tA_bind (Rep' := RepI X.mg X.K) hs hl h fun ds S1 μ1 vs H1 hs1 hl1 u1 r1 h1 => by
    split at h1
    · split at h1
      · rename_i i j hc
        obtain ⟨v, w, rfl, r, r'⟩ := r1.two
        simp only [Bool.and_eq_true] at hc
        exact ⟨i, j, by rw [r.inv_int, r'.inv_int], ⟨(c62_ok hc.1).1, (c62_ok hc.1).2, (c62_ok hc.2).1, (c62_ok hc.2).2⟩, h1 _ H1 μ1 .refl hs1 repI_rng⟩
      · exact h1.elim
    · exact h1.elim
end

/-! ### for -/
open Classical in
noncomputable def forGo (it : ItD) (g : MG) (b : MS) : List D → Sl → List Cell → ResS
  | [], sd, S => if it.okAt S then .nx sd S else .stk
  | x :: r, sd, S => if it.okAt S then (match g x sd S with
    | .ok sd1 S1 => (match b sd1 S1 with
      | .nx sd2 S2 => forGo it g b r sd2 S2
      | .ct sd2 S2 => forGo it g b r sd2 S2
      | .bk sd2 S2 => .nx sd2 S2
      | .rt d S2 => .rt d S2
      | .exc e sd2 S2 => .exc e sd2 S2
      | .stk => .stk)
    | .exc e S1 => .exc e sd S1
    | .stk => .stk) else .stk
noncomputable def mFor (mi : MI) (g : MG) (b : MS) : MS := fun sd S => (mi sd S).thenS sd fun it S1 => forGo it g b it.xs sd S1
section
variable {X : Cx} {W : WX}
theorem ss_for {tg iter : Expr} {body : List Stmt} {mi : MI} {g : MG} {b : MS} {pos : Pos} (hp : PassesOwn (model X.prog X.w) X.A X.env X.xe) (hc : X.calm = true) (hi : SI X W tg iter mi) (hg : SG X W tg g) (hb : SB X W body b)
    (hs : ∀ x, foldedSetIterable iter X.env x = pure x := by intro _; rfl) : SS X W (.For tg iter body [] pos) (mFor mi g b) := by
  refine (ps_for hp hc hi hg hb hs).impF fun D σ H ⟨μ, S, sd, hs, hl, h⟩ => ?_
  unfold mFor at h
  refine ⟨μ, S, sd, hs, hl, ?_⟩
  generalize hr : mi sd S = r at h
  cases r with
  | stk => exact h
  | exc x S1 => exact fun c dx H' μ' u s e => h c dx σ H' μ' u s (hl.up u) e
  | ok it S1 =>
    intro J H1 μ1 u1 s1 rJ
    have h : FinS X.mg X.K W μ H (forGo it g b it.xs sd S1) D := h
    refine ⟨fun i m σ H => m = it.xs.length - i ∧ i ≤ it.xs.length ∧ ∃ μ S sd, StoRep X.mg X.K μ S H ∧ SlRep X.K μ H sd σ ∧ Up μ1 H1 μ H ∧ FinS X.mg X.K W μ H (forGo it g b (it.xs.drop i) sd S) D,
      ⟨it.xs.length, by simp, Nat.zero_le _, μ1, S1, sd, s1, hl.up u1, .refl, FinS.up u1 h⟩, ?_⟩
    rintro i m σ2 H2 ⟨rfl, hi, μ2, S2, sd2, s2, l2, u2, h2⟩
    by_cases hlt : i < it.xs.length
    · rw [List.drop_eq_getElem_cons hlt] at h2
      unfold forGo at h2
      split at h2
      · rename_i ok
        obtain ⟨go, yl⟩ := (rJ μ2 H2 S2 u2 s2 ok i).1 it.xs[i] (by simp [hlt])
        refine .inr ⟨go, fun σ' H' => ∃ μ S sd, StoRep X.mg X.K μ S H' ∧ SlRep X.K μ H' sd σ' ∧ Up μ1 H1 μ H' ∧ FinS X.mg X.K W μ H' (forGo it g b (it.xs.drop (i + 1)) sd S) D, fun σ' H' q => ⟨_, by omega, rfl, hlt, q⟩, fun x H3 y => ?_⟩
        obtain ⟨u3, s3, r3⟩ := yl x H3 y
        refine ⟨μ2, S2, sd2, it.xs[i], s3, l2.up u3, r3, ?_⟩
        have h3 := FinS.up u3 h2
        generalize hg : g it.xs[i] sd2 S2 = rg at h3
        cases rg with
        | stk => exact h3
        | exc e S3 => exact fun c dx H' μ' u s e => h3 c dx σ2 H' μ' u s ((l2.up u3).up u) e
        | ok sd3 S3 =>
          intro σ4 H4 μ4 u4 s4 l4
          refine ⟨μ4, S3, sd3, s4, l4, ?_⟩
          have h4 := FinS.up u4 h3
          have uu : Up μ1 H1 μ4 H4 := (u2.trans u3).trans u4
          have h4 : FinS X.mg X.K W μ4 H4 (match b sd3 S3 with
            | .nx sd2 S2 => forGo it g b (it.xs.drop (i + 1)) sd2 S2
            | .ct sd2 S2 => forGo it g b (it.xs.drop (i + 1)) sd2 S2
            | .bk sd2 S2 => .nx sd2 S2
            | .rt d S2 => .rt d S2
            | .exc e sd2 S2 => .exc e sd2 S2
            | .stk => .stk) D := h4
          generalize hbr : b sd3 S3 = rb at h4
          cases rb with
          | stk => exact h4
          | exc e sd5 S5 => exact h4
          | rt d S5 => exact h4
          | bk sd5 S5 => exact h4
          | nx sd5 S5 => exact fun σ5 H5 μ5 u5 s5 l5 => ⟨μ5, S5, sd5, s5, l5, uu.trans u5, FinS.up u5 h4⟩
          | ct sd5 S5 => exact fun σ5 H5 μ5 u5 s5 l5 => ⟨μ5, S5, sd5, s5, l5, uu.trans u5, FinS.up u5 h4⟩
      · exact h2.elim
    · have e : i = it.xs.length := by omega
      subst e
      rw [List.drop_length] at h2
      unfold forGo at h2
      split at h2
      · rename_i ok
        exact .inl ⟨(rJ μ2 H2 S2 u2 s2 ok _).2 (Nat.le_refl _), h2 σ2 H2 μ2 .refl s2 l2⟩
      · exact h2.elim

/-! ### while -/
def whGo (t : MT) (b : MS) : Nat → Sl → List Cell → ResS
  | 0, _, _ => .stk
  | n + 1, sd, S => (t sd S).thenS sd fun c S1 => if c = true then (match b sd S1 with
      | .nx sd2 S2 => whGo t b n sd2 S2
      | .ct sd2 S2 => whGo t b n sd2 S2
      | .bk sd2 S2 => .nx sd2 S2
      | .rt d S2 => .rt d S2
      | .exc e sd2 S2 => .exc e sd2 S2
      | .stk => .stk) else .nx sd S1
def mWhile (n : Nat) (t : MT) (b : MS) : MS := whGo t b n
theorem ss_while (n : Nat) {c : Expr} {body : List Stmt} {t : MT} {b : MS} {pos : Pos} (hp : PassesOwn (model X.prog X.w) X.A X.env X.xe) (hc : ST X W c t) (hb : SB X W body b) : SS X W (.While c body [] pos) (mWhile n t b) := by
  refine (ps_while hp hc hb).impF fun D σ H ⟨μ, S, sd, hs, hl, h⟩ => ?_
  refine ⟨fun m σ H => ∃ μ S sd, StoRep X.mg X.K μ S H ∧ SlRep X.K μ H sd σ ∧ FinS X.mg X.K W μ H (whGo t b m sd S) D, ⟨n, μ, S, sd, hs, hl, h⟩, ?_⟩
  rintro m σ1 H1 ⟨μ1, S1, sd1, s1, l1, h1⟩
  cases m with
  | zero => exact h1.elim
  | succ m =>
    refine tT_then s1 l1 h1 fun c S2 μ2 H2 s2 l2 u2 h2 => ?_
    cases c with
    | false => exact h2 σ1 H2 μ2 .refl s2 l2
    | true =>
      refine ⟨fun σ H => ∃ μ S sd, StoRep X.mg X.K μ S H ∧ SlRep X.K μ H sd σ ∧ FinS X.mg X.K W μ H (whGo t b m sd S) D, fun σ' H' q => ⟨m, Nat.lt_succ_self _, q⟩, μ2, S2, sd1, s2, l2, ?_⟩
      have h2 : FinS X.mg X.K W μ2 H2 (match b sd1 S2 with
            | .nx sd2 S2 => whGo t b m sd2 S2
            | .ct sd2 S2 => whGo t b m sd2 S2
            | .bk sd2 S2 => .nx sd2 S2
            | .rt d S2 => .rt d S2
            | .exc e sd2 S2 => .exc e sd2 S2
            | .stk => .stk) D := h2
      generalize hbr : b sd1 S2 = rb at h2
      cases rb with
      | stk => exact h2
      | exc e sd5 S5 => exact h2
      | rt d S5 => exact h2
      | bk sd5 S5 => exact h2
      | nx sd5 S5 => exact fun σ5 H5 μ5 u5 s5 l5 => ⟨μ5, S5, sd5, s5, l5, FinS.up u5 h2⟩
      | ct sd5 S5 => exact fun σ5 H5 μ5 u5 s5 l5 => ⟨μ5, S5, sd5, s5, l5, FinS.up u5 h2⟩
end

/-! ### comprehensions; lists that are no cells (used at once) -/
/-- a target whose stores keep to the slots vs -/
def tGw (X : Cx) (W : WX) (vs : List Nat) (g : MG) : TG := fun v σ H Q => ∃ μ S sd d, StoRep X.mg X.K μ S H ∧ SlRep X.K μ H sd σ ∧ RepV X.K μ H d v ∧ FinA X.mg X.K (fun μ H sd' σ' => SlRep X.K μ H sd' σ' ∧ wipe σ' vs = wipe σ vs) (fun c d H' => W c d σ H') μ H (g d sd S) Q
abbrev SGw (X : Cx) (W : WX) (vs : List Nat) (tg : Expr) (g : MG) : Prop := PG X tg (tGw X W vs g)
theorem wipe_set {σ : St} {i : Nat} {o : Option V} : ∀ {vs : List Nat}, i ∈ vs → wipe (σ.set i o) vs = wipe σ vs
  | [], h => by cases h
  | v :: vs, h => by
    by_cases hv : i ∈ vs
    · show (wipe (σ.set i o) vs).set v none = (wipe σ vs).set v none
      rw [wipe_set hv]
    · have e : i = v := by
        rcases List.mem_cons.mp h with e | e
        · exact e
        · exact absurd e hv
      subst e
      have out : ∀ (us : List Nat) (τ : St), i ∉ us → wipe (τ.set i o) us = (wipe τ us).set i o := by
        intro us
        induction us with
        | nil => intro τ _; rfl
        | cons u us ih =>
          intro τ hu
          rw [List.mem_cons, not_or] at hu
          show (wipe (τ.set i o) us).set u none = ((wipe τ us).set u none).set i o
          rw [ih τ hu.2, List.set_comm _ _ hu.1]
      show (wipe (σ.set i o) vs).set i none = (wipe σ vs).set i none
      rw [out vs σ hv, List.set_set]
section
variable {X : Cx} {W : WX}
theorem sgw_name (i : Nat) {vs : List Nat} {x : Str} {pos : Pos} (hN : X.N.Nodup) (hv : i ∈ vs := by decide) (hi : X.N[i]? = some x := by rfl) (hx : Loc X.env.scope x := by first | exact Or.inl rfl | exact Or.inr rfl) (hf : X.fn x = true ∨ X.env.scope.names.lookup x = some .local := by first | exact .inl rfl | exact .inr rfl) : SGw X W vs (.Name x pos) (gN i) :=
  (pg_name hN hi hx hf).impF fun v σ H Q ⟨μ, S, sd, d, hs, hl, r, h⟩ => h _ H μ .refl hs ⟨hl.set r, wipe_set hv⟩
def tGsw (X : Cx) (W : WX) (ws : List Nat) (g : MGs) : TGs := fun vs σ H Q => ∃ μ S sd ds, StoRep X.mg X.K μ S H ∧ SlRep X.K μ H sd σ ∧ RepL X.K μ H ds vs ∧ FinA X.mg X.K (fun μ H sd' σ' => SlRep X.K μ H sd' σ' ∧ wipe σ' ws = wipe σ ws) (fun c d H' => W c d σ H') μ H (g ds sd S) Q
abbrev SGsw (X : Cx) (W : WX) (ws : List Nat) (tgs : List Expr) (g : MGs) : Prop := PGs X tgs (tGsw X W ws g)
theorem sgsw_nil {ws : List Nat} : SGsw X W ws [] gsNil := pgs_nil.impF fun vs σ H Q ⟨μ, S, sd, ds, hs, hl, r, h⟩ => by
  cases r with
  | nil => exact ⟨rfl, h σ H μ .refl hs ⟨hl, rfl⟩⟩
  | cons _ _ => exact h.elim
theorem sgsw_cons {ws : List Nat} {e : Expr} {es : List Expr} {g : MG} {r : MGs} (h1 : SGw X W ws e g) (h2 : SGsw X W ws es r) (nx : ∀ d sd S x S', g d sd S ≠ .exc x S') (nr : ∀ d sd S x S', r d sd S ≠ .exc x S')
    (hst : (assignEach (e :: es) X.env).map (·.2) = assign e X.env :: (assignEach es X.env).map (·.2) := by rfl) : SGsw X W ws (e :: es) (gsCons g r) :=
  (pgs_cons h1 h2 hst).impF fun vs σ H Q ⟨μ, S, sd, ds, hs, hl, rp, h⟩ => by
    cases rp with
    | nil => exact h.elim
    | @cons d v ds vs rd rr =>
      refine ⟨v, vs, rfl, μ, S, sd, d, hs, hl, rd, ?_⟩
      have h : FinA X.mg X.K (fun μ H sd' σ' => SlRep X.K μ H sd' σ' ∧ wipe σ' ws = wipe σ ws) (fun c d H' => W c d σ H') μ H ((g d sd S).bind fun sd1 S1 => r ds sd1 S1) Q := h
      generalize hr : g d sd S = res at h
      cases res with
      | ok sd1 S1 =>
        rintro σ' H' μ' u s ⟨l, hw⟩
        refine ⟨μ', S1, sd1, ds, s, l, rr.up u, ?_⟩
        have h' : FinA X.mg X.K (fun μ H sd' σ' => SlRep X.K μ H sd' σ' ∧ wipe σ' ws = wipe σ ws) (fun c d H' => W c d σ H') μ' H' (r ds sd1 S1) Q := FinA.up u h
        generalize hr2 : r ds sd1 S1 = res2 at h'
        cases res2 with
        | ok sd2 S2 => exact fun σ3 H3 μ3 u3 s3 ⟨l3, w3⟩ => h' σ3 H3 μ3 u3 s3 ⟨l3, w3.trans hw⟩
        | exc x S2 => exact absurd hr2 (nr _ _ _ _ _)
        | stk => exact h'
      | exc x S1 => exact absurd hr (nx _ _ _ _ _)
      | stk => exact h
theorem sgw_tup {ws : List Nat} {es : List Expr} {k : Nat} {g : MGs} {n : Nat} {pos : Pos} (hc : X.calm = true) (h : SGsw X W ws es g) (hn : (assignEach es X.env).length = n := by rfl) (hst : (assignEach es X.env).findIdx? (·.1) = none := by rfl) : SGw X W ws (.Tuple es k pos) (gTupD n g) :=
  (pg_tup hc h hn hst).impF fun v σ H Q ⟨μ, S, sd, d, hs, hl, r, h⟩ => by
    unfold gTupD at h
    split at h
    · split at h
      · rename_i ds hz
        cases r with
        | tup ht rl => exact ⟨_, _, rfl, ht, by rw [← rl.length]; exact hz, μ, S, sd, ds, hs, hl, rl, h⟩
      · exact h.elim
    · exact h.elim
end
end Fx

namespace Fx
open PySem PySem.Spec PyProof.Rows L2

def wipeD (sd : Sl) : List Nat → Sl
  | [] => sd
  | v :: vs => (wipeD sd vs).set v none
theorem SlRep.wipe {K : PySem.W.Frag} {μ : Mu} {H : Hp} {sd : Sl} {σ : St} (h : SlRep K μ H sd σ) : ∀ ws : List Nat, SlRep K μ H (wipeD sd ws) (wipe σ ws)
  | [] => h
  | v :: vs => (SlRep.wipe h vs).none
theorem wipe_idem (σ : St) : ∀ {ws us : List Nat}, (∀ w ∈ us, w ∈ ws) → wipe (wipe σ us) ws = wipe σ ws
  | ws, [], _ => rfl
  | ws, u :: us, h => by
    show wipe ((wipe σ us).set u none) ws = wipe σ ws
    rw [wipe_set (h u (by simp))]
    exact wipe_idem σ fun w hw => h w (by simp [hw])
abbrev W0 : WX := fun _ _ _ _ => False
/-- a list that is no cell -/
def RepF (K : PySem.W.Frag) (H0 : Hp) (μ : Mu) (H : Hp) (ds : List D) (v : V) : Prop := ∃ p vs, v = .ref p ∧ H p = some (.lst vs) ∧ p ∉ μ ∧ H0 p = none ∧ RepL K μ H ds vs
abbrev ML := Sl → List Cell → Res (List D)
def tL (X : Cx) (W : WX) (m : ML) : TE := fun σ H Q => ∃ μ S sd, StoRep X.mg X.K μ S H ∧ SlRep X.K μ H sd σ ∧ FinA X.mg X.K (RepF X.K H) (fun c d H' => W c d σ H') μ H (m sd S) Q
abbrev SL (X : Cx) (W : WX) (e : Expr) (m : ML) : Prop := PE X e (tL X W m)
abbrev STs (X : Cx) (W : WX) (ifs : List Expr) (m : MT) : Prop := PTs X ifs (tT X W m)
theorem _root_.L2.PTs.impF {X : Cx} {ifs : List Expr} {t t' : TT} (h : PTs X ifs t) (i : ∀ σ H Q, t' σ H Q → t σ H Q) : PTs X ifs t' := ⟨fun pins s σ H Q I q => h.run pins s σ H Q I (i σ H Q q)⟩
def mYes : MT := fun _ S => .ok true S
open Classical in
noncomputable def lcGo (it : ItD) (ws : List Nat) (g : MG) (t : MT) (e : ME) (sd : Sl) : List D → List D → List Cell → Res (List D)
  | [], acc, S => if it.okAt S then .ok acc S else .stk
  | x :: r, acc, S => if it.okAt S then (match g x (wipeD sd ws) S with
    | .ok sd1 S1 => (match t sd1 S1 with
      | .ok b S2 => if b = true then (match e sd1 S2 with
          | .ok y S3 => if acc.length < sizeLine then lcGo it ws g t e sd r (acc ++ [y]) S3 else .stk
          | _ => .stk) else lcGo it ws g t e sd r acc S2
      | _ => .stk)
    | _ => .stk) else .stk
noncomputable def mLc (mi : MI) (ws : List Nat) (g : MG) (t : MT) (e : ME) : ML := fun sd S => (mi sd S).bind fun it S1 => lcGo it ws g t e sd it.xs [] S1
section
variable {X : Cx} {W : WX}
theorem sts_nil : STs X W [] mYes := pts_nil.impF fun σ H Q ⟨μ, S, sd, hs, hl, h⟩ => h true H μ .refl hs rfl
theorem sts_one {c : Expr} {t : MT} (h : ST X W c t) : STs X W [c] t := pts_one h
theorem lcGo_noexc (it : ItD) (ws : List Nat) (g : MG) (t : MT) (e : ME) (sd : Sl) : ∀ (xs acc : List D) (S : List Cell) (x : Ex) (S' : List Cell), lcGo it ws g t e sd xs acc S ≠ .exc x S'
  | [], acc, S, x, S', h => by
    unfold lcGo at h
    split at h <;> cases h
  | y :: r, acc, S, x, S', h => by
    unfold lcGo at h
    split at h
    · split at h
      · split at h
        · split at h
          · split at h
            · split at h
              · exact lcGo_noexc _ _ _ _ _ _ _ _ _ _ _ h
              · cases h
            · cases h
          · exact lcGo_noexc _ _ _ _ _ _ _ _ _ _ _ h
        · cases h
      · cases h
    · cases h
theorem lc_of {mi : MI} {g : MG} {t : MT} {e : ME} (ws : List Nat) (σ : St) (H : Hp) (Q : VK) (h : tL X W (mLc mi ws g t e) σ H Q) : tLc (tI X W mi) (tGw X W0 ws g) (tT X W0 t) (tE X W0 e) ws σ H Q := by
  obtain ⟨μ, S, sd, hs, hl, h⟩ := h
  refine ⟨μ, S, sd, hs, hl, ?_⟩
  unfold mLc at h
  generalize hr : mi sd S = r at h
  cases r with
  | stk => exact h.elim
  | exc x S1 => exact h
  | ok it S1 =>
    intro J H1 μ1 u1 s1 rJ D hD
    have hD1 : D ∉ μ1 := s1.new hD
    have hD0 : H D = none := (u1.back hD).resolve_left fun hm => by
      obtain ⟨n, hn⟩ := List.mem_iff_getElem?.mp hm
      exact hD1 (List.mem_of_getElem? (u1.mu n D hn))
    have h : FinA X.mg X.K (RepF X.K H) (fun c d H' => W c d σ H') μ1 H1 (lcGo it ws g t e sd it.xs [] S1) Q := FinA.up u1 h
    have l1 := hl.up u1
    refine ⟨fun i m H2 => m = it.xs.length - i ∧ i ≤ it.xs.length ∧ ∃ μ2 S2 acc vs, StoRep X.mg X.K μ2 S2 H2 ∧ SlRep X.K μ2 H2 sd σ ∧ Up μ1 H1 μ2 H2 ∧ H2 D = some (.lst vs) ∧ D ∉ μ2 ∧ RepL X.K μ2 H2 acc vs ∧
      FinA X.mg X.K (RepF X.K H) (fun c d H' => W c d σ H') μ1 H1 (lcGo it ws g t e sd (it.xs.drop i) acc S2) Q,
      ⟨it.xs.length, by simp, Nat.zero_le _, μ1, S1, [], [], s1.tmp hD, l1.up (up_tmp hD), up_tmp hD, upd_same, hD1, .nil, h⟩, ?_⟩
    rintro i m H2 ⟨rfl, hi, μ2, S2, acc, vs, s2, l2, u2, eD, nD, rA, h2⟩
    by_cases hlt : i < it.xs.length
    · rw [List.drop_eq_getElem_cons hlt] at h2
      unfold lcGo at h2
      split at h2
      · rename_i okk
        obtain ⟨go, yl⟩ := (rJ μ2 H2 S2 u2 s2 okk i).1 it.xs[i] (by simp [hlt])
        refine .inr ⟨go, fun H2 => ∃ μ2 S2 acc vs, StoRep X.mg X.K μ2 S2 H2 ∧ SlRep X.K μ2 H2 sd σ ∧ Up μ1 H1 μ2 H2 ∧ H2 D = some (.lst vs) ∧ D ∉ μ2 ∧ RepL X.K μ2 H2 acc vs ∧
          FinA X.mg X.K (RepF X.K H) (fun c d H' => W c d σ H') μ1 H1 (lcGo it ws g t e sd (it.xs.drop (i + 1)) acc S2) Q, fun H' q => ⟨_, by omega, rfl, hlt, q⟩, fun x H3 y => ?_⟩
        obtain ⟨u3, s3, r3⟩ := yl x H3 y
        refine ⟨μ2, S2, wipeD sd ws, it.xs[i], s3, (l2.up u3).wipe ws, r3, ?_⟩
        generalize hg : g it.xs[i] (wipeD sd ws) S2 = rg at h2
        cases rg with
        | stk => exact h2.elim
        | exc x S3 => exact h2.elim
        | ok sd3 S3 =>
          rintro σ4 H4 μ4 u4 s4 ⟨l4, w4⟩
          refine ⟨?_, ?_⟩
          · rw [w4, wipe_idem σ fun w hw => hw]
          · refine ⟨μ4, S3, sd3, s4, l4, ?_⟩
            simp only at h2
            generalize ht : t sd3 S3 = rt at h2
            cases rt with
            | stk => exact h2.elim
            | exc x S4 => exact h2.elim
            | ok b S5 =>
              rintro b' H5 μ5 u5 s5 rfl
              have uu : Up μ2 H2 μ5 H5 := (u3.trans u4).trans u5
              have e5 := uu.rest D _ eD nD
              have n5 := uu.off eD nD
              simp only at h2
              cases b with
              | false =>
                rw [if_neg Bool.false_ne_true] at h2 ⊢
                exact ⟨μ5, S5, acc, vs, s5, l2.up uu, u2.trans uu, e5, n5, rA.up uu, h2⟩
              | true =>
                rw [if_pos rfl] at h2 ⊢
                refine ⟨μ5, S5, sd3, s5, l4.up u5, ?_⟩
                generalize he : e sd3 S5 = re at h2
                cases re with
                | stk => exact h2.elim
                | exc x S6 => exact h2.elim
                | ok yd S6 =>
                  intro yv H6 μ6 u6 s6 r6
                  simp only at h2
                  split at h2
                  · rename_i hz
                    have uu6 := uu.trans u6
                    have e6 := uu6.rest D _ eD nD
                    have n6 := uu6.off eD nD
                    have uO : UpR μ6 H6 μ6 (upd H6 D (.lst (vs ++ [yv]))) := upR_other e6
                    refine ⟨vs, e6, by rw [← rA.length]; exact hz, μ6, S6, acc ++ [yd], vs ++ [yv], s6.other n6 e6, (l2.up uu6).upR uO, (u2.trans uu6).other hD e6, upd_same, n6, ((rA.up uu6).snoc r6).upR uO, h2⟩
                  · exact h2.elim
      · exact h2.elim
    · have e : i = it.xs.length := by omega
      subst e
      rw [List.drop_length] at h2
      unfold lcGo at h2
      split at h2
      · rename_i okk
        refine .inl ⟨(rJ μ2 H2 S2 u2 s2 okk _).2 (Nat.le_refl _), ?_⟩
        exact h2 (.ref D) H2 μ2 u2 s2 ⟨D, vs, rfl, eD, nD, hD0, rA⟩
      · exact h2.elim
theorem sl_lc {elt tg iter : Expr} {ifs : List Expr} {scope : Scope} {pos : Pos} {mi : MI} {g : MG} {t : MT} {e : ME} (own : List (Str × Nat)) (hc : X.calm = true) (hN : X.N.Nodup) (hi : SI X W tg iter mi) (ok : BlkOk X.N X.env.scope scope own)
    (hg : ∀ (s : Shared) (H : Hp) (C : Addr) (cl : List (Str × Addr)) (fp : List Addr), SGw (X.blk s H scope (compEnvC scope cl C X.env) fp) W0 (own.map (·.2)) tg g) (ht : ∀ (s : Shared) (H : Hp) (C : Addr) (cl : List (Str × Addr)) (fp : List Addr), STs (X.blk s H scope (compEnvC scope cl C X.env) fp) W0 ifs t)
    (he : ∀ (s : Shared) (H : Hp) (C : Addr) (cl : List (Str × Addr)) (fp : List Addr), SE (X.blk s H scope (compEnvC scope cl C X.env) fp) W0 elt e) (hs : ∀ x, foldedSetIterable iter X.env x = pure x := by intro _; rfl) :
    SL X W (.ListComp elt [⟨tg, iter, ifs, 0⟩] scope pos) (mLc mi (own.map (·.2)) g t e) :=
  (pe_lc (g := tGw X W0 (own.map fun x : Str × Nat => x.2) g) (tt := tT X W0 t) (te := tE X W0 e) hc hN hi ok (fun s H C cl fp => hg s H C cl fp) (fun s H C cl fp => ht s H C cl fp) (fun s H C cl fp => he s H C cl fp) hs).impF fun σ H Q h => lc_of _ σ H Q h
/-- [a, b, ..] used at once -/
theorem sl_lst {es : List Expr} {m : MA} {pos} (h : SA X W es m) : SL X W (.List es pos) (fun sd S => (m sd S).bind fun ds S1 => if ds.length ≤ sizeLine then .ok ds S1 else .stk) :=
  (pe_lst h).impF fun σ H Q ⟨μ, S, sd, hs, hl, h⟩ => tA_bind (Rep' := RepF X.K H) hs hl h fun ds S1 μ1 vs H1 hs1 hl1 u1 r1 h1 => by
    split at h1
    · rename_i hz
      refine ⟨by rw [← r1.length]; exact hz, fun p hp => ?_⟩
      have n1 := hs1.new hp
      have h0 : H p = none := (u1.back hp).resolve_left fun hm => by
        obtain ⟨n, hn⟩ := List.mem_iff_getElem?.mp hm
        exact n1 (List.mem_of_getElem? (u1.mu n p hn))
      exact h1 (.ref p) _ μ1 (up_tmp hp) (hs1.tmp hp) ⟨p, vs, rfl, upd_same, n1, h0, r1.up (up_tmp hp)⟩
    · exact h1.elim
/-- .. becomes a cell -/
def mFresh (m : ML) : ME := fun sd S => (m sd S).bind fun ds S1 => .ok (.loc S1.length) (S1 ++ [.lst ds])
theorem StoRep.adopt {mg : Str → Option Value} {K : PySem.W.Frag} {μ : Mu} {S : List Cell} {H : Hp} {p : Addr} {c : Cell} (h : StoRep mg K μ S H) (hp : p ∉ μ) (hc : CellOk mg K (μ ++ [p]) H p c) : StoRep mg K (μ ++ [p]) (S ++ [c]) H where
  nd := by
    rw [List.nodup_append]
    refine ⟨h.nd, by simp, fun x hx y hy e => ?_⟩
    rw [List.mem_singleton] at hy
    subst hy; subst e
    exact hp hx
  len := by simp [h.len]
  at_ := fun n c' a e1 e2 => by
    by_cases hn : n < S.length
    · have e1' : S[n]? = some c' := by rw [← e1, List.getElem?_append_left hn]
      have e2' : μ[n]? = some a := by rw [← e2, List.getElem?_append_left (by rw [h.len]; exact hn)]
      exact (h.at_ n c' a e1' e2').keep ⟨fun m b e => by rw [List.getElem?_append_left (List.getElem?_eq_some_iff.mp e).1]; exact e, fun _ _ e => e, fun _ _ _ e => e⟩ rfl
    · have hn' : n = S.length := by
        have := (List.getElem?_eq_some_iff.mp e1).1
        simp at this; omega
      subst hn'
      have z1 : c = c' := by simpa using e1
      have z2 : p = a := by
        have := h.len
        rw [← this] at e2; simpa using e2
      subst z1; subst z2
      exact hc
theorem se_fresh {e : Expr} {m : ML} (h : SL X W e m) : SE X W e (mFresh m) := by
  refine h.impF fun σ H Q ⟨μ, S, sd, hs, hl, h⟩ => ⟨μ, S, sd, hs, hl, ?_⟩
  unfold mFresh at h
  generalize hr : m sd S = r at h
  cases r with
  | stk => exact h.elim
  | exc x S1 => exact h
  | ok ds S1 =>
    rintro v H1 μ1 u1 s1 ⟨p, vs, rfl, e1, n1, h0, rl⟩
    have up : UpR μ1 H1 (μ1 ++ [p]) H1 := ⟨fun m b e => by rw [List.getElem?_append_left (List.getElem?_eq_some_iff.mp e).1]; exact e, fun _ _ e => e, fun _ _ _ e => e⟩
    exact h (.ref p) H1 (μ1 ++ [p]) (u1.adopt h0) (s1.adopt n1 ⟨vs, e1, rl.upR up⟩) (.loc (by rw [← s1.len]; simp))
theorem ss_setLc (i : Nat) {y : Str} {py : Pos} {elt tg iter : Expr} {ifs : List Expr} {scope : Scope} {pos spos : Pos} {mi : MI} {g : MG} {t : MT} {e : ME} (own : List (Str × Nat)) (hc : X.calm = true) (hN : X.N.Nodup) (hi : SI X W tg iter mi) (ok : BlkOk X.N X.env.scope scope own)
    (hg : ∀ (s : Shared) (H : Hp) (C : Addr) (cl : List (Str × Addr)) (fp : List Addr), SGw (X.blk s H scope (compEnvC scope cl C X.env) fp) W0 (own.map (·.2)) tg g) (ht : ∀ (s : Shared) (H : Hp) (C : Addr) (cl : List (Str × Addr)) (fp : List Addr), STs (X.blk s H scope (compEnvC scope cl C X.env) fp) W0 ifs t)
    (he : ∀ (s : Shared) (H : Hp) (C : Addr) (cl : List (Str × Addr)) (fp : List Addr), SE (X.blk s H scope (compEnvC scope cl C X.env) fp) W0 elt e) (hs : ∀ x, foldedSetIterable iter X.env x = pure x := by intro _; rfl)
    (hy : X.N[i]? = some y := by rfl) (hyl : X.env.scope.names.lookup y = some .local := by rfl) (hsw : swapsWith (.ListComp elt [⟨tg, iter, ifs, 0⟩] scope pos) (some (.Name y py)) spos.line X.env = pure true := by exact sw_true rfl rfl rfl (by decide +kernel)) :
    SS X W (.Assign [.Name y py] (.ListComp elt [⟨tg, iter, ifs, 0⟩] scope pos) spos) (mSet i (mFresh (mLc mi (own.map (·.2)) g t e))) :=
  (ps_setLc (g := tGw X W0 (own.map fun x : Str × Nat => x.2) g) (tt := tT X W0 t) (te := tE X W0 e) hc hN hy hyl hsw hi ok (fun s H C cl fp => hg s H C cl fp) (fun s H C cl fp => ht s H C cl fp) (fun s H C cl fp => he s H C cl fp) hs).impF fun D σ H ⟨μ, S, sd, hs, hl, h⟩ => by
    refine lc_of _ σ H _ ⟨μ, S, sd, hs, hl, ?_⟩
    unfold mSet mFresh at h
    generalize hr : mLc mi (own.map (·.2)) g t e sd S = r at h
    cases r with
    | stk => exact h.elim
    | exc x S1 => exact fun c dx H' μ' u s e => h c dx σ H' μ' u s (hl.up u) e
    | ok ds S1 =>
      rintro v H1 μ1 u1 s1 ⟨p, vs, rfl, e1, n1, h0, rl⟩
      have up : UpR μ1 H1 (μ1 ++ [p]) H1 := ⟨fun m b e => by rw [List.getElem?_append_left (List.getElem?_eq_some_iff.mp e).1]; exact e, fun _ _ e => e, fun _ _ _ e => e⟩
      have ua := u1.adopt h0
      exact h _ H1 (μ1 ++ [p]) ua (s1.adopt n1 ⟨vs, e1, rl.upR up⟩) ((hl.up ua).set (.loc (by rw [← s1.len]; simp)))
/-- a built-in called upon such a list -/
abbrev OF := List D → List Cell → Res D
def CallF (X : Cx) (W : WX) (f : Value) (o : OF) : Prop :=
  ∃ r : List V → Hp → VK → Prop, CallR X f r ∧ ∀ σ H μ S ds p vs Q, StoRep X.mg X.K μ S H → H p = some (.lst vs) → RepL X.K μ H ds vs → FinA X.mg X.K (RepV X.K) (fun c d H' => W c d σ H') μ H (o ds S) Q → r [.ref p] H Q
def mF (o : OF) (a : ML) : ME := fun sd S => (a sd S).bind fun ds S1 => o ds S1
theorem mF_of {o : OF} {e : Expr} {ma : ML} {r : List V → Hp → VK → Prop} (h2 : ∀ σ H μ S ds p vs Q, StoRep X.mg X.K μ S H → H p = some (.lst vs) → RepL X.K μ H ds vs → FinA X.mg X.K (RepV X.K) (fun c d H' => W c d σ H') μ H (o ds S) Q → r [.ref p] H Q)
    (σ : St) (H : Hp) (Q : VK) (h : tE X W (mF o ma) σ H Q) : tCB r (tCons (tL X W ma) tNil) σ H Q := by
  obtain ⟨μ, S, sd, hs, hl, h⟩ := h
  refine ⟨μ, S, sd, hs, hl, ?_⟩
  unfold mF at h
  generalize hr : ma sd S = ra at h
  cases ra with
  | stk => exact h.elim
  | exc x S1 => exact h
  | ok ds S1 =>
    rintro v H1 μ1 u1 s1 ⟨p, vs, rfl, e1, n1, h0, rl⟩
    exact h2 σ H1 μ1 S1 ds p vs Q s1 e1 rl (FinA.up u1 h)
theorem se_callFB {id : String} {x : Str} {o : OF} {e : Expr} {ma : ML} {p pos : Pos} (hc : CallF X W (.builtin id) o) (hm : X.mg x = none) (ha : SL X W e ma) (hv : bootBuiltins x = some (.builtin id) := by decide +kernel) (hg : Gl X x := by rfl) (hn : x ≠ "__name__" := by decide) (hdb : (x == ("__debug__" : Str)) = false := by decide)
    (hst : starEach [e] X.env = (false, eval e X.env) :: starEach [] X.env := by rfl) (hpl : (backTo pos (starEach [] X.env)).any (·.1) = false := by rfl) : SE X W (.Call (.Name x p) [e] [] pos) (mF o ma) := by
  obtain ⟨r, h1, h2⟩ := hc
  exact (pe_callB h1 hg hm hv (pa_cons ha pa_nil hst) hn hdb hst hpl).impF (mF_of (e := e) h2)
theorem se_callFT {T : String} {x : Str} {o : OF} {e : Expr} {ma : ML} {p pos : Pos} (hc : CallF X W (.type T) o) (hm : X.mg x = none) (ha : SL X W e ma) (hv : bootBuiltins x = some (.type T) := by decide +kernel) (hg : Gl X x := by rfl) (hn : x ≠ "__name__" := by decide) (hdb : (x == ("__debug__" : Str)) = false := by decide)
    (hst : starEach [e] X.env = (false, eval e X.env) :: starEach [] X.env := by rfl) (hpl : (backTo pos (starEach [] X.env)).any (·.1) = false := by rfl) : SE X W (.Call (.Name x p) [e] [] pos) (mF o ma) := by
  obtain ⟨r, h1, h2⟩ := hc
  exact (pe_callTy h1 hg hm hv (pa_cons ha pa_nil hst) hn hdb hst hpl).impF (mF_of (e := e) h2)
def oTupF : OF := fun ds S => .ok (.tup ds) S
theorem cf_tuple : CallF X W (.type "tuple") oTupF := ⟨_, call_tuple_of, fun σ H μ S ds p vs Q hs e r h => ⟨p, vs, rfl, .inl ⟨SqL.of e, fun l hn => h (.ref l) _ μ (up_tmp hn) (hs.tmp hn) (.tup (SqT.of upd_same) (r.up (up_tmp hn)))⟩⟩⟩
def oAllF : OF := fun ds S => match blsD ds with | some bs => .ok (.bl (bs.all id)) S | none => .stk
def oAnyF : OF := fun ds S => match blsD ds with | some bs => .ok (.bl (bs.any id)) S | none => .stk
def oSumF : OF := fun ds S => match intsD ds with | some ns => .ok (.int ns.sum) S | none => .stk
def oLenF : OF := fun ds S => .ok (.int ds.length) S
theorem cf_all (hc : X.calm = true) : CallF X W (.builtin "all") oAllF := ⟨_, cr_all hc, fun σ H μ S ds p vs Q hs e r h => by
  unfold oAllF at h
  split at h
  · rename_i bs eb
    exact ⟨p, bs, rfl, by rw [← blsD_ok r eb]; exact SqL.of e, h _ H μ .refl hs (.bl _)⟩
  · exact h.elim⟩
theorem cf_any (hc : X.calm = true) : CallF X W (.builtin "any") oAnyF := ⟨_, cr_any hc, fun σ H μ S ds p vs Q hs e r h => by
  unfold oAnyF at h
  split at h
  · rename_i bs eb
    exact ⟨p, bs, rfl, by rw [← blsD_ok r eb]; exact SqL.of e, h _ H μ .refl hs (.bl _)⟩
  · exact h.elim⟩
theorem cf_sum (hc : X.calm = true) : CallF X W (.builtin "sum") oSumF := ⟨_, cr_sum hc, fun σ H μ S ds p vs Q hs e r h => by
  unfold oSumF at h
  split at h
  · rename_i bs eb
    exact ⟨p, bs, rfl, by rw [← intsD_ok r eb]; exact SqL.of e, h _ H μ .refl hs (.int _)⟩
  · exact h.elim⟩
theorem cf_len : CallF X W (.builtin "len") oLenF := ⟨_, call_len_seq, fun σ H μ S ds p vs Q hs e r h => ⟨p, vs, rfl, .inl (SqL.of e), by rw [← r.length]; exact h _ H μ .refl hs (.int _)⟩⟩
end
end Fx

namespace Fx
open PySem PySem.Spec PyProof.Rows L2

/-! ### cells that nobody names any more are left out -/
mutual
def D.bel (n : Nat) : D → Prop
  | .loc k => k < n
  | .tup l => D.belL n l
  | .cst l => D.belL n l
  | _ => True
def D.belL (n : Nat) : List D → Prop
  | [] => True
  | d :: r => D.bel n d ∧ D.belL n r
end
def Cell.bel (n : Nat) : Cell → Prop
  | .lst xs => D.belL n xs
  | .dic kvs => D.belL n (kvs.map (·.1)) ∧ D.belL n (kvs.map (·.2))
  | .ins _ fs => D.belL n (fs.map (·.2))
section
variable {K : PySem.W.Frag} {mg : Str → Option Value} {μ : Mu} {H : Hp}
mutual
theorem RepV.cut {n : Nat} : ∀ {d : D} {v : V}, RepV K μ H d v → D.bel n d → RepV K (μ.take n) H d v
  | _, _, .non, _ => .non
  | _, _, .bl b, _ => .bl b
  | _, _, .int i, _ => .int i
  | _, _, .str x, _ => .str x
  | _, _, .tup h r, b => .tup h (RepL.cut r (by unfold D.bel at b; exact b))
  | _, _, .cst h r, b => .cst h (RepL.cut r (by unfold D.bel at b; exact b))
  | _, _, .loc h, b => .loc (by unfold D.bel at b; rw [List.getElem?_take_of_lt b]; exact h)
theorem RepL.cut {n : Nat} : ∀ {ds : List D} {vs : List V}, RepL K μ H ds vs → D.belL n ds → RepL K (μ.take n) H ds vs
  | _, _, .nil, _ => .nil
  | _, _, .cons h r, b => by
    unfold D.belL at b
    exact .cons (RepV.cut h b.1) (RepL.cut r b.2)
end
mutual
theorem RepV.bel {n : Nat} (hn : μ.length ≤ n) : ∀ {d : D} {v : V}, RepV K μ H d v → D.bel n d
  | _, _, .non => by unfold D.bel; trivial
  | _, _, .bl b => by unfold D.bel; trivial
  | _, _, .int i => by unfold D.bel; trivial
  | _, _, .str x => by unfold D.bel; trivial
  | _, _, .tup h r => by unfold D.bel; exact RepL.bel hn r
  | _, _, .cst h r => by unfold D.bel; exact RepL.bel hn r
  | _, _, .loc h => by unfold D.bel; exact Nat.lt_of_lt_of_le (List.getElem?_eq_some_iff.mp h).1 hn
theorem RepL.bel {n : Nat} (hn : μ.length ≤ n) : ∀ {ds : List D} {vs : List V}, RepL K μ H ds vs → D.belL n ds
  | _, _, .nil => by unfold D.belL; trivial
  | _, _, .cons h r => by unfold D.belL; exact ⟨RepV.bel hn h, RepL.bel hn r⟩
end
theorem CellOk.cut {n : Nat} {a : Addr} {c : Cell} (h : CellOk mg K μ H a c) (b : c.bel n) : CellOk mg K (μ.take n) H a c := by
  cases c with
  | lst xs => obtain ⟨vs, h, r⟩ := h; exact ⟨vs, h, r.cut b⟩
  | dic _ => exact h.elim
  | ins _ _ => exact h.elim
theorem CellOk.bel {n : Nat} {a : Addr} {c : Cell} (h : CellOk mg K μ H a c) (hn : μ.length ≤ n) : c.bel n := by
  cases c with
  | lst xs => obtain ⟨vs, h, r⟩ := h; exact r.bel hn
  | dic _ => exact h.elim
  | ins _ _ => exact h.elim
theorem StoRep.cells {S : List Cell} (h : StoRep mg K μ S H) {n : Nat} (hn : S.length ≤ n) : ∀ c ∈ S, c.bel n := fun c hc => by
  obtain ⟨i, hi⟩ := List.mem_iff_getElem?.mp hc
  have hl := (List.getElem?_eq_some_iff.mp hi).1
  have hm : i < μ.length := by rw [h.len]; exact hl
  exact (h.at_ i c μ[i] hi (by simp [hm])).bel (by rw [h.len]; exact hn)
theorem StoRep.cut {S junk : List Cell} (h : StoRep mg K μ (S ++ junk) H) (b : ∀ c ∈ S, c.bel S.length) : StoRep mg K (μ.take S.length) S H where
  nd := h.nd.sublist (List.take_sublist _ _)
  len := by
    have := h.len
    rw [List.length_take, this, List.length_append]
    omega
  at_ := fun n c a e1 e2 => by
    have hl := (List.getElem?_eq_some_iff.mp e1).1
    rw [List.getElem?_take_of_lt hl] at e2
    exact (h.at_ n c a (by rw [List.getElem?_append_left hl]; exact e1) e2).cut (b c (List.mem_of_getElem? e1))
theorem Up.cut {μ' : Mu} {H' : Hp} {n : Nat} (u : Up μ H μ' H') (hn : μ.length ≤ n) : Up μ H (μ'.take n) H' where
  mu := fun i a e => by rw [List.getElem?_take_of_lt (Nat.lt_of_lt_of_le (List.getElem?_eq_some_iff.mp e).1 hn)]; exact u.mu i a e
  tup := u.tup
  frz := u.frz
  rest := u.rest
  fresh := fun b h => u.fresh b (List.mem_of_mem_take h)
theorem RepL.map {ds : List D} {vs : List V} (r : RepL K μ H ds vs) : ∀ (i : Nat) (d : D), (ds.map some)[i]? = some (some d) → ∃ v, (vs.map some)[i]? = some (some v) ∧ RepV K μ H d v := fun i d e => by
  rw [List.getElem?_map] at e
  obtain ⟨d', e1, e2⟩ := Option.map_eq_some_iff.mp e
  cases e2
  obtain ⟨v, e3, r3⟩ := r.getD e1
  exact ⟨v, by rw [List.getElem?_map, e3]; rfl, r3⟩
end
def startD (n : Nat) (ds : List D) : Sl := ds.map some ++ List.replicate (n - ds.length) none
theorem slRep_start {K : PySem.W.Frag} {μ : Mu} {H : Hp} {ds : List D} {vs : List V} (N : List Str) (r : RepL K μ H ds vs) : SlRep K μ H (startD N.length ds) (L2.start N vs) where
  len := by simp [startD, L2.start, r.length]
  at_ := fun i d e => by
    have hl := r.length
    by_cases hi : i < ds.length
    · have e' : (ds.map some)[i]? = some (some d) := by
        unfold startD at e
        rwa [List.getElem?_append_left (by simpa using hi)] at e
      obtain ⟨v, e1, r1⟩ := r.map i d e'
      refine ⟨v, ?_, r1⟩
      unfold L2.start
      rw [List.getElem?_append_left (by simp; omega)]
      exact e1
    · unfold startD at e
      rw [List.getElem?_append_right (by simp; omega)] at e
      have := List.mem_of_getElem? e
      rw [List.mem_replicate] at this
      cases this.2
/-- what a def's body came to, as its summary tells it -/
def RefR (S : List Cell) (r : Res D) (b : ResS) : Prop := match r with
  | .stk => True
  | .ok d S1 => S.length ≤ S1.length ∧ d.bel S1.length ∧ (∀ c ∈ S1, c ∈ S ∨ c.bel S1.length) ∧ ∃ junk, b = .rt d (S1 ++ junk) ∨ (d = .non ∧ ∃ sd', b = .nx sd' (S1 ++ junk))
  | .exc x S1 => S.length ≤ S1.length ∧ D.belL S1.length (x.fs.map (·.2)) ∧ (∀ c ∈ S1, c ∈ S ∨ c.bel S1.length) ∧ ∃ junk sd', b = .exc x sd' (S1 ++ junk)
section
variable {P : Program} {w : World} {K : PySem.W.Frag} {mg : Str → Option Value} {base : Heap}
/-- a global def as it stands behind the top -/
def IsFn (K : PySem.W.Frag) (mg : Str → Option Value) (x : Str) (st : Stmt) (ps : List Str) : Prop := ∃ f fd, mg x = some (.ref f) ∧ Fun K x x st f fd ∧ Binds K fd ps []
abbrev bodyX (P : Program) (w : World) (K : PySem.W.Frag) (mg : Str → Option Value) (base : Heap) (N : List Str) (x : Str) (st : Stmt) (f : Addr) (cdv : Value) (A : Around) (outer : List Env) (s : Shared) (H : Hp) (E : XK) : Cx := cxOf (L2.CX P w) P w K mg base N x (defScope st) f cdv A outer s H E
theorem fnOk_def {x : Str} {st : Stmt} {N ps : List Str} {k : Nat} {m : List D → List Cell → Res D} {mb : MS} {f : Addr} {fd : FuncData} (F : Fun K x x st f fd) (S : FnScope N ps (defScope st))
    (hb : ∀ (f : Addr) (cdv : Value) (A : Around) (outer : List Env) (s : Shared) (H : Hp) (E : XK), Takes (bodyX P w K mg base N x st f cdv A outer s H E) (fun cls d _ H' => E cls d H') →
      PassesOwn (model P w) (bodyX P w K mg base N x st f cdv A outer s H E).A (bodyX P w K mg base N x st f cdv A outer s H E).env (bodyX P w K mg base N x st f cdv A outer s H E).xe → Room k (bodyX P w K mg base N x st f cdv A outer s H E).A →
      SB (bodyX P w K mg base N x st f cdv A outer s H E) (fun cls d _ H' => E cls d H') (defBody st) mb)
    (hm : ∀ ds S, ds.length = ps.length → RefR S (m ds S) (mb (startD N.length ds) S)) : FnOk P w K mg base (L2.CX P w) (k + 1) f fd ps (spM mg K ps.length m) := by
  refine F.okX S (fun vs H Q E h => h.1) (fun cdv A outer s H vs Q E hr h => ?_)
  obtain ⟨hlen, μ, S0, ds, hs, rl, hF⟩ := h
  refine ⟨_, hb f cdv A outer s H E (takes_of rfl rfl rfl rfl) (passes_of rfl) hr, μ, S0, startD N.length ds, hs, slRep_start N rl, ?_⟩
  have hR := hm ds S0 (by rw [rl.length]; exact hlen)
  generalize m ds S0 = r at hF hR
  generalize mb (startD N.length ds) S0 = b at hR
  have hlen := hs.len
  cases r with
  | stk => exact hF.elim
  | ok d S1 =>
    obtain ⟨c1, c2, c3, junk, hb⟩ := hR
    have hc : ∀ c ∈ S1, c.bel S1.length := fun c hm => (c3 c hm).elim (hs.cells c1 c) id
    rcases hb with rfl | ⟨rfl, sd', rfl⟩
    · exact fun v H' μ' u s r => hF v H' (μ'.take S1.length) (u.cut (by omega)) (s.cut hc) (r.cut c2)
    · exact fun σ' H' μ' u s l => hF .non H' (μ'.take S1.length) (u.cut (by omega)) (s.cut hc) .non
  | exc x S1 =>
    obtain ⟨c1, c2, c3, junk, sd', rfl⟩ := hR
    have hc : ∀ c ∈ S1, c.bel S1.length := fun c hm => (c3 c hm).elim (hs.cells c1 c) id
    exact fun cls dx σ' H' μ' u s l ⟨C, dd, fs, e1, e2, e3, e4, e5, e6⟩ => hF cls dx H' (μ'.take S1.length) (u.cut (by omega)) (s.cut hc) ⟨C, dd, fs, e1, e2, e3, e4, e5, e6.cut c2⟩
theorem FnM.def {x : Str} {st : Stmt} {N ps : List Str} {k : Nat} {m : List D → List Cell → Res D} {mb : MS} (F : IsFn K mg x st ps) (S : FnScope N ps (defScope st))
    (hb : ∀ (f : Addr) (cdv : Value) (A : Around) (outer : List Env) (s : Shared) (H : Hp) (E : XK), Takes (bodyX P w K mg base N x st f cdv A outer s H E) (fun cls d _ H' => E cls d H') →
      PassesOwn (model P w) (bodyX P w K mg base N x st f cdv A outer s H E).A (bodyX P w K mg base N x st f cdv A outer s H E).env (bodyX P w K mg base N x st f cdv A outer s H E).xe → Room k (bodyX P w K mg base N x st f cdv A outer s H E).A →
      SB (bodyX P w K mg base N x st f cdv A outer s H E) (fun cls d _ H' => E cls d H') (defBody st) mb)
    (hm : ∀ ds S, ds.length = ps.length → RefR S (m ds S) (mb (startD N.length ds) S)) : FnM P w K mg base (k + 1) x ps.length m := by
  obtain ⟨f, fd, h1, F, hbd⟩ := F
  exact ⟨f, fd, ps, h1, F.kp, hbd, fnOk_def F S hb hm⟩
/-- nothing is promised -/
theorem FnM.none {x : Str} {st : Stmt} {N ps : List Str} {k : Nat} (F : IsFn K mg x st ps) (S : FnScope N ps (defScope st)) : FnM P w K mg base k x ps.length (fun _ _ => .stk) := by
  obtain ⟨f, fd, h1, F, hbd⟩ := F
  refine ⟨f, fd, ps, h1, F.kp, hbd, ⟨fun vs H Q E h => h.1, fun A outer s H args us vs Q E hr he hbi hv hsp => ?_⟩⟩
  obtain ⟨_, _, _, _, _, _, h⟩ := hsp
  exact h.elim
end
/-- a def's summary with less told -/
theorem FnM.imp {P : Program} {w : World} {K : PySem.W.Frag} {mg : Str → Option Value} {base : Heap} {k n : Nat} {x : Str} {m m' : List D → List Cell → Res D} (F : FnM P w K mg base k x n m) (h : ∀ ds S, m' ds S = .stk ∨ m' ds S = m ds S) : FnM P w K mg base k x n m' := by
  obtain ⟨f, fd, ps, h1, h2, h3, h4⟩ := F
  refine ⟨f, fd, ps, h1, h2, h3, h4.imp fun vs H Q E ⟨l, μ, S, ds, hs, rl, q⟩ => ⟨l, μ, S, ds, hs, rl, ?_⟩⟩
  rcases h ds S with e | e
  · rw [e] at q; exact q.elim
  · rwa [e] at q
/-! ### the law -/
theorem only_sq {K : PySem.W.Frag} {H : Hp} {a : Addr} {xs : List V} (h : Only H) (q : SqL K H a xs) : SqF K H a xs := by
  rcases q with (q | ⟨o, q⟩) | q
  · rcases h a with z | ⟨o, ys, z⟩
    · rw [z] at q; cases q
    · rw [z] at q; cases q
  · exact .inl ⟨o, q⟩
  · exact .inr q
theorem repL_ints {K : PySem.W.Frag} {μ : Mu} {H : Hp} : ∀ ns : List Int, RepL K μ H (ns.map D.int) (ns.map V.int)
  | [] => .nil
  | n :: ns => .cons (.int n) (repL_ints ns)
/-- what the law's def is to keep -/
def spLaw (K : PySem.W.Frag) : Sp := fun vs H Q _ => ∃ (a : Addr) (ns : List Int), vs = [.ref a] ∧ Only H ∧ SqL K H a (ns.map V.int) ∧ ns.length ≤ 63 ∧ ∀ H', Q (.bl true) H'
theorem law_imp {mg : Str → Option Value} {K : PySem.W.Frag} {m : List D → List Cell → Res D} (h : ∀ ns : List Int, ns.length ≤ 63 → ∃ S, m [.cst (ns.map D.int)] [] = .ok (.bl true) S) : ∀ vs H Q E, spLaw K vs H Q E → spM mg K 1 m vs H Q E := fun vs H Q E ⟨a, ns, e, hO, hq, hl, q⟩ => by
  subst e
  obtain ⟨S, e⟩ := h ns hl
  refine ⟨rfl, [], [], [.cst (ns.map D.int)], ⟨.nil, rfl, fun n c a e _ => by simp at e⟩, .cons (.cst (only_sq hO hq) (repL_ints ns)) .nil, ?_⟩
  rw [e]
  intro v H' μ' u s r
  rw [r.inv_bl]
  exact q H'
theorem hCX {P : Program} {w : World} (H : Hp) (s : Shared) (e : Value) (s' : Shared) (h : L2.CX P w [] H s (fun _ _ _ => False) e s') : False := by
  obtain ⟨_, _, _, _, _, _, _, _, _, _, _, _, z⟩ := h
  exact z.elim
end Fx
namespace Fx
open PySem PySem.Spec PyProof.Rows L2
def cs (s : String) : List Nat := (Str.ofString s).cps.toList
theorem len_nil : ∀ sd S ds S', mNil sd S = .ok ds S' → ds.length = 0 := fun sd S ds S' h => by cases h; rfl
theorem len_cons {m : ME} {r : MA} {n : Nat} (h : ∀ sd S ds S', r sd S = .ok ds S' → ds.length = n) : ∀ sd S ds S', mCons m r sd S = .ok ds S' → ds.length = n + 1 := fun sd S ds S' e => by
  unfold mCons at e
  generalize m sd S = x at e
  cases x with
  | ok d S1 =>
    have e : (r sd S1).bind (fun ds S2 => .ok (d :: ds) S2) = .ok ds S' := e
    generalize hr : r sd S1 = y at e
    cases y with
    | ok es S2 => cases e; rw [List.length_cons, h _ _ _ _ hr]
    | exc _ _ => cases e
    | stk => cases e
  | exc _ _ => cases e
  | stk => cases e
/-- how often a while turns at most -/
def whN : Nat := 2 ^ 64
theorem se_globI {X : Cx} {W : WX} {x : Str} {i : Int} {pos : Pos} (h : ∃ t, X.mg x = some (.int i t)) (hg : Gl X x := by rfl) (hd : (x == ("__debug__" : Str)) = false := by decide) : SE X W (.Name x pos) (mC (.int i)) := by
  obtain ⟨t, h⟩ := h
  exact se_glob hg h (v := .int i) ⟨t, rfl⟩ (fun _ _ => .int i) hd
def mLst' (m : MA) : ML := fun sd S => (m sd S).bind fun ds S1 => if ds.length ≤ sizeLine then .ok ds S1 else .stk
theorem isFn_mk {K : PySem.W.Frag} {h : Heap} {mg : Str → Option Value} {x : Str} {st : Stmt} {ps : List Str} {f : Addr} {oc : Value} {od an : Option Addr} {osl : Array (Option Value)} {kV doc pm cdv ct : Value} (X : K.In h) (G : h.Ns mainGlobals mg)
    (a : PySem.W.nsIn K mainGlobals x = some (some (.ref f))) (l : K.lookup f = some ⟨oc, od, .func (PySem.W.fnOf x x (defArgs st) (defBody st) (defScope st) .none kV doc pm an cdv ct), osl⟩)
    (c : PySem.W.codeIn K cdv x = true) (k : PySem.W.keepIn K (.ref f) = true)
    (hb : ∀ (kV doc pm : Value) (an : Option Addr) (cdv ct : Value) (us : List Value), us.length = ps.length → bindArgs (PySem.W.fnOf x x (defArgs st) (defBody st) (defScope st) .none kV doc pm an cdv ct) ⟨us, []⟩ = pure (ps.zip us)) : IsFn K mg x st ps :=
  ⟨f, _, PySem.W.mg_of X G a, fun_mk l c k, (fun_mk l c k).binds hb⟩
end Fx

namespace Fx
open PySem PySem.Spec PyProof.Rows L2

/-! ### the mirrors, evaluated -/
section
variable {α β : Type} {sd sd1 sd2 : Sl} {S S1 S2 : List Cell}
@[simp] theorem bind_ok (a : α) (f : α → List Cell → Res β) : (Res.ok a S).bind f = f a S := (rfl)
@[simp] theorem bind_exc (x : Ex) (f : α → List Cell → Res β) : (Res.exc x S).bind f = .exc x S := (rfl)
@[simp] theorem bind_stk (f : α → List Cell → Res β) : (Res.stk : Res α).bind f = .stk := (rfl)
@[simp] theorem thenS_ok (a : α) (f : α → List Cell → ResS) : (Res.ok a S).thenS sd f = f a S := (rfl)
@[simp] theorem thenS_exc (x : Ex) (f : α → List Cell → ResS) : (Res.exc x S : Res α).thenS sd f = .exc x sd S := (rfl)
@[simp] theorem thenS_stk (f : α → List Cell → ResS) : (Res.stk : Res α).thenS sd f = .stk := (rfl)
@[simp] theorem mC_ev (d : D) : mC d sd S = .ok d S := (rfl)
@[simp] theorem mVar_ev (i : Nat) : mVar i sd S = match sd[i]? with | some (some d) => .ok d S | _ => .stk := (rfl)
@[simp] theorem mNil_ev : mNil sd S = .ok [] S := (rfl)
@[simp] theorem mCons_ev (m : ME) (r : MA) : mCons m r sd S = (m sd S).bind fun d S1 => (r sd S1).bind fun ds S2 => .ok (d :: ds) S2 := (rfl)
@[simp] theorem mTup_ev (m : MA) : mTup m sd S = (m sd S).bind fun ds S1 => if ds.length ≤ sizeLine then .ok (.tup ds) S1 else .stk := (rfl)
@[simp] theorem mLst_ev (m : MA) : mLst m sd S = (m sd S).bind fun ds S1 => if ds.length ≤ sizeLine then .ok (.loc S1.length) (S1 ++ [.lst ds]) else .stk := (rfl)
@[simp] theorem mLst'_ev (m : MA) : mLst' m sd S = (m sd S).bind fun ds S1 => if ds.length ≤ sizeLine then .ok ds S1 else .stk := (rfl)
@[simp] theorem mBin_ev (o : O2) (a b : ME) : mBin o a b sd S = (a sd S).bind fun d S1 => (b sd S1).bind fun e S2 => o d e S2 := (rfl)
@[simp] theorem mNeg_ev (m : ME) : mNeg m sd S = (m sd S).bind fun d S1 => match d with | .int i => .ok (.int (-i)) S1 | _ => .stk := (rfl)
@[simp] theorem mCall_ev (f : List D → List Cell → Res D) (a : MA) : mCall f a sd S = (a sd S).bind fun ds S1 => f ds S1 := (rfl)
@[simp] theorem mB_ev (f : OC) (a : MA) : mB f a sd S = (a sd S).bind fun ds S1 => f ds S1 := (rfl)
@[simp] theorem mF_ev (f : OF) (a : ML) : mF f a sd S = (a sd S).bind fun ds S1 => f ds S1 := (rfl)
@[simp] theorem mFresh_ev (m : ML) : mFresh m sd S = (m sd S).bind fun ds S1 => .ok (.loc S1.length) (S1 ++ [.lst ds]) := (rfl)
@[simp] theorem mTru_ev (m : ME) : mTru m sd S = (m sd S).bind fun d S1 => optR (truD S1 d) S1 := (rfl)
@[simp] theorem mTst_ev (m : ME) : mTst m sd S = (m sd S).bind fun d S1 => optR (blD d) S1 := (rfl)
@[simp] theorem mChain_ev (o o' : O2) (a b c : ME) : mChain o o' a b c sd S = (a sd S).bind fun d S1 => (b sd S1).bind fun e S2 => (o d e S2).bind fun z S3 => match z with
  | .bl k => if k = true then (c sd S3).bind fun f S4 => o' e f S4 else .ok (.bl false) S3
  | _ => .stk := (rfl)
@[simp] theorem mAnd_ev (a b : MT) : mAnd a b sd S = (a sd S).bind fun c S1 => if c = true then b sd S1 else .ok false S1 := (rfl)
@[simp] theorem mOr_ev (a b : MT) : mOr a b sd S = (a sd S).bind fun c S1 => if c = true then .ok true S1 else b sd S1 := (rfl)
@[simp] theorem mNot_ev (a : MT) : mNot a sd S = (a sd S).bind fun c S1 => .ok (!c) S1 := (rfl)
@[simp] theorem mYes_ev : mYes sd S = .ok true S := (rfl)
@[simp] theorem mAndV_ev (a b : ME) : mAndV a b sd S = (a sd S).bind fun d S1 => match truD S1 d with | some true => b sd S1 | some false => .ok d S1 | none => .stk := (rfl)
@[simp] theorem mOrV_ev (a b : ME) : mOrV a b sd S = (a sd S).bind fun d S1 => match truD S1 d with | some true => .ok d S1 | some false => b sd S1 | none => .stk := (rfl)
@[simp] theorem mNotV_ev (a : ME) : mNotV a sd S = (a sd S).bind fun d S1 => match truD S1 d with | some b => .ok (.bl (!b)) S1 | none => .stk := (rfl)
@[simp] theorem mIfE_ev (t : MT) (a b : ME) : mIfE t a b sd S = (t sd S).bind fun c S1 => if c = true then a sd S1 else b sd S1 := (rfl)
@[simp] theorem mIsi_ev (T : String) (m : ME) : mIsi T m sd S = (m sd S).bind fun d S1 => match isiD S1 T d with | some b => .ok (.bl b) S1 | none => .stk := (rfl)
@[simp] theorem mNoPart_ev : mNoPart sd S = .ok none S := (rfl)
@[simp] theorem mPart_ev (m : ME) : mPart m sd S = (m sd S).bind fun d S1 => match intD d with | some i => .ok (some i) S1 | none => .stk := (rfl)
@[simp] theorem mSlice_ev (m : ME) (lo hi : MO) : mSlice m lo hi sd S = (m sd S).bind fun d S1 => (lo sd S1).bind fun l S2 => (hi sd S2).bind fun h S3 => oSl d l h S3 := (rfl)
@[simp] theorem mNext_ev : mNext sd S = .nx sd S := (rfl)
@[simp] theorem mBreak_ev : mBreak sd S = .bk sd S := (rfl)
@[simp] theorem mCont_ev : mCont sd S = .ct sd S := (rfl)
@[simp] theorem mSeq_ev (a b : MS) : mSeq a b sd S = match a sd S with
  | .nx sd1 S1 => b sd1 S1
  | .rt d S1 => .rt d S1
  | .bk sd1 S1 => .bk sd1 S1
  | .ct sd1 S1 => .ct sd1 S1
  | .exc x sd1 S1 => .exc x sd1 S1
  | .stk => .stk := (rfl)
@[simp] theorem mRet_ev (m : ME) : mRet m sd S = (m sd S).thenS sd fun d S1 => .rt d S1 := (rfl)
@[simp] theorem mRetN_ev : mRetN sd S = .rt .non S := (rfl)
@[simp] theorem mExpr_ev (m : ME) : mExpr m sd S = (m sd S).thenS sd fun _ S1 => .nx sd S1 := (rfl)
@[simp] theorem mIf_ev (t : MT) (a b : MS) : mIf t a b sd S = (t sd S).thenS sd fun c S1 => if c = true then a sd S1 else b sd S1 := (rfl)
@[simp] theorem mSet_ev (i : Nat) (m : ME) : mSet i m sd S = (m sd S).thenS sd fun d S1 => .nx (sd.set i (some d)) S1 := (rfl)
@[simp] theorem mAsg_ev (g : MG) (m : ME) : mAsg g m sd S = (m sd S).thenS sd fun d S1 => (g d sd S1).thenS sd fun sd2 S2 => .nx sd2 S2 := (rfl)
@[simp] theorem mAug_ev (i : Nat) (o : O2) (m : ME) : mAug i o m sd S = (mVar i sd S).thenS sd fun d S1 => (m sd S1).thenS sd fun e S2 => (o d e S2).thenS sd fun f S3 => .nx (sd.set i (some f)) S3 := (rfl)
@[simp] theorem gN_ev (i : Nat) (d : D) : gN i d sd S = .ok (sd.set i (some d)) S := (rfl)
@[simp] theorem gTupD_ev (n : Nat) (g : MGs) (d : D) : gTupD n g d sd S = match d with | .tup ds => if ds.length = n then g ds sd S else .stk | _ => .stk := (rfl)
@[simp] theorem gsNil_ev : gsNil [] sd S = .ok sd S := (rfl)
@[simp] theorem gsCons_ev (g : MG) (r : MGs) (d : D) (ds : List D) : gsCons g r (d :: ds) sd S = (g d sd S).bind fun sd1 S1 => r ds sd1 S1 := (rfl)
@[simp] theorem gSubL_ev (o i : ME) (v : D) : gSubL o i v sd S = (o sd S).bind fun d S1 => (i sd S1).bind fun e S2 => match d, e with
  | .loc n, .int k => match mlst S2 n with
    | some xs => match ixN xs.length k with
      | some j => .ok sd (S2.set n (.lst (xs.set j v)))
      | none => .stk
    | none => .stk
  | _, _ => .stk := (rfl)
@[simp] theorem mAppend_ev (o a : ME) : mAppend o a sd S = (o sd S).bind fun d S1 => match d with
  | .loc n => match mlst S1 n with
    | none => .stk
    | some _ => (a sd S1).bind fun e S2 => match mlst S2 n with
      | some xs => if xs.length < sizeLine then .ok .non (S2.set n (.lst (xs ++ [e]))) else .stk
      | none => .stk
  | _ => .stk := (rfl)
@[simp] theorem mPar_ev (i j : Nat) (a : MA) : mPar i j a sd S = match a sd S with
  | .ok [d, e] S1 => .nx ((sd.set i (some d)).set j (some e)) S1
  | .exc x S1 => .exc x sd S1
  | _ => .stk := (rfl)
@[simp] theorem mPar3_ev (i j l : Nat) (a : MA) : mPar3 i j l a sd S = match a sd S with
  | .ok [d, e, f] S1 => .nx (((sd.set i (some d)).set j (some e)).set l (some f)) S1
  | .exc x S1 => .exc x sd S1
  | _ => .stk := (rfl)
@[simp] theorem mSeqI_ev (m : ME) : mSeqI m sd S = (m sd S).bind fun d S1 => match d with
  | .tup xs => .ok ⟨xs, none⟩ S1
  | .cst xs => .ok ⟨xs, none⟩ S1
  | .loc n => match cellL S1 n with
    | some xs => .ok ⟨xs, some n⟩ S1
    | none => .stk
  | _ => .stk := (rfl)
@[simp] theorem mRng1_ev (a : MA) : mRng1 a sd S = (a sd S).bind fun ds S1 => match ds with
  | [.int j] => if c62 j then .ok ⟨rngD 0 j.toNat, none⟩ S1 else .stk
  | _ => .stk := (rfl)
@[simp] theorem mRng2_ev (a : MA) : mRng2 a sd S = (a sd S).bind fun ds S1 => match ds with
  | [.int i, .int j] => if c62 i && c62 j then .ok ⟨rngD i (j - i).toNat, none⟩ S1 else .stk
  | _ => .stk := (rfl)
@[simp] theorem mFor_ev (mi : MI) (g : MG) (b : MS) : mFor mi g b sd S = (mi sd S).thenS sd fun it S1 => forGo it g b it.xs sd S1 := (rfl)
@[simp] theorem mLc_ev (mi : MI) (ws : List Nat) (g : MG) (t : MT) (e : ME) : mLc mi ws g t e sd S = (mi sd S).bind fun it S1 => lcGo it ws g t e sd it.xs [] S1 := (rfl)
@[simp] theorem mWhile_ev (n : Nat) (t : MT) (b : MS) : mWhile n t b sd S = whGo t b n sd S := (rfl)
@[simp] theorem optR_some (a : α) : optR (some a) S = .ok a S := (rfl)
@[simp] theorem optR_none : optR (none : Option α) S = .stk := (rfl)
@[simp] theorem blD_bl (b : Bool) : blD (.bl b) = some b := (rfl)
@[simp] theorem intD_int (i : Int) : intD (.int i) = some i := (rfl)
@[simp] theorem truD_bl (b : Bool) : truD S (.bl b) = some b := (rfl)
@[simp] theorem truD_int (b : Int) : truD S (.int b) = some (b != 0) := (rfl)
@[simp] theorem truD_non : truD S .non = some false := (rfl)
@[simp] theorem truD_tup (l : List D) : truD S (.tup l) = some (!l.isEmpty) := (rfl)
@[simp] theorem seqD_tup (l : List D) : seqD S (.tup l) = some l := (rfl)
@[simp] theorem seqD_cst (l : List D) : seqD S (.cst l) = some l := (rfl)
@[simp] theorem seqD_loc (n : Nat) : seqD S (.loc n) = cellL S n := (rfl)
@[simp] theorem lstD_loc (n : Nat) : lstD S (.loc n) = cellL S n := (rfl)
@[simp] theorem lstD_cst (l : List D) : lstD S (.cst l) = some l := (rfl)
@[simp] theorem isNonD_non : isNonD .non = true := (rfl)
@[simp] theorem isNonD_bl (b : Bool) : isNonD (.bl b) = false := (rfl)
@[simp] theorem isNonD_int (b : Int) : isNonD (.int b) = false := (rfl)
@[simp] theorem isNonD_str (b : List Nat) : isNonD (.str b) = false := (rfl)
@[simp] theorem isNonD_tup (b : List D) : isNonD (.tup b) = false := (rfl)
@[simp] theorem isNonD_cst (b : List D) : isNonD (.cst b) = false := (rfl)
@[simp] theorem isNonD_loc (b : Nat) : isNonD (.loc b) = false := (rfl)
@[simp] theorem tyD_non : tyD S .non = some "NoneType" := (rfl)
@[simp] theorem tyD_bl (b : Bool) : tyD S (.bl b) = some "bool" := (rfl)
@[simp] theorem tyD_int (b : Int) : tyD S (.int b) = some "int" := (rfl)
@[simp] theorem tyD_str (b : List Nat) : tyD S (.str b) = some "str" := (rfl)
@[simp] theorem tyD_tup (b : List D) : tyD S (.tup b) = some "tuple" := (rfl)
@[simp] theorem tyD_cst (b : List D) : tyD S (.cst b) = some "list" := (rfl)
@[simp] theorem tyD_loc (b : Nat) : tyD S (.loc b) = (cellL S b).map fun _ => "list" := (rfl)
theorem kb {a b : String} {r : Bool} (h : kitB a b = some r) : (some a).bind (fun t => kitB t b) = some r := h
@[simp] theorem isi_non_int : isiD S "int" .non = some false := kb (a := "NoneType") (by decide +kernel)
@[simp] theorem isi_non_bool : isiD S "bool" .non = some false := kb (a := "NoneType") (by decide +kernel)
@[simp] theorem isi_non_str : isiD S "str" .non = some false := kb (a := "NoneType") (by decide +kernel)
@[simp] theorem isi_non_tuple : isiD S "tuple" .non = some false := kb (a := "NoneType") (by decide +kernel)
@[simp] theorem isi_non_list : isiD S "list" .non = some false := kb (a := "NoneType") (by decide +kernel)
@[simp] theorem isi_bl_int (b : Bool) : isiD S "int" (.bl b) = some true := kb (by decide +kernel)
@[simp] theorem isi_bl_bool (b : Bool) : isiD S "bool" (.bl b) = some true := kb (by decide +kernel)
@[simp] theorem isi_bl_str (b : Bool) : isiD S "str" (.bl b) = some false := kb (by decide +kernel)
@[simp] theorem isi_bl_tuple (b : Bool) : isiD S "tuple" (.bl b) = some false := kb (by decide +kernel)
@[simp] theorem isi_bl_list (b : Bool) : isiD S "list" (.bl b) = some false := kb (by decide +kernel)
@[simp] theorem isi_int_int (b : Int) : isiD S "int" (.int b) = some true := kb (by decide +kernel)
@[simp] theorem isi_int_bool (b : Int) : isiD S "bool" (.int b) = some false := kb (by decide +kernel)
@[simp] theorem isi_int_str (b : Int) : isiD S "str" (.int b) = some false := kb (by decide +kernel)
@[simp] theorem isi_int_tuple (b : Int) : isiD S "tuple" (.int b) = some false := kb (by decide +kernel)
@[simp] theorem isi_int_list (b : Int) : isiD S "list" (.int b) = some false := kb (by decide +kernel)
@[simp] theorem isi_str_int (b : List Nat) : isiD S "int" (.str b) = some false := kb (by decide +kernel)
@[simp] theorem isi_str_bool (b : List Nat) : isiD S "bool" (.str b) = some false := kb (by decide +kernel)
@[simp] theorem isi_str_str (b : List Nat) : isiD S "str" (.str b) = some true := kb (by decide +kernel)
@[simp] theorem isi_str_tuple (b : List Nat) : isiD S "tuple" (.str b) = some false := kb (by decide +kernel)
@[simp] theorem isi_str_list (b : List Nat) : isiD S "list" (.str b) = some false := kb (by decide +kernel)
@[simp] theorem isi_tup_int (b : List D) : isiD S "int" (.tup b) = some false := kb (by decide +kernel)
@[simp] theorem isi_tup_bool (b : List D) : isiD S "bool" (.tup b) = some false := kb (by decide +kernel)
@[simp] theorem isi_tup_str (b : List D) : isiD S "str" (.tup b) = some false := kb (by decide +kernel)
@[simp] theorem isi_tup_tuple (b : List D) : isiD S "tuple" (.tup b) = some true := kb (by decide +kernel)
@[simp] theorem isi_tup_list (b : List D) : isiD S "list" (.tup b) = some false := kb (by decide +kernel)
@[simp] theorem isi_cst_int (b : List D) : isiD S "int" (.cst b) = some false := kb (by decide +kernel)
@[simp] theorem isi_cst_bool (b : List D) : isiD S "bool" (.cst b) = some false := kb (by decide +kernel)
@[simp] theorem isi_cst_str (b : List D) : isiD S "str" (.cst b) = some false := kb (by decide +kernel)
@[simp] theorem isi_cst_tuple (b : List D) : isiD S "tuple" (.cst b) = some false := kb (by decide +kernel)
@[simp] theorem isi_cst_list (b : List D) : isiD S "list" (.cst b) = some true := kb (by decide +kernel)
theorem kl {n : Nat} {xs : List D} {b : String} {r : Bool} (h : kitB "list" b = some r) (hc : cellL S n = some xs) : isiD S b (.loc n) = some r := by
  unfold isiD
  rw [tyD_loc, hc]
  exact h
theorem isi_loc_int {n : Nat} {xs : List D} (h : cellL S n = some xs) : isiD S "int" (.loc n) = some false := kl (by decide +kernel) h
theorem isi_loc_bool {n : Nat} {xs : List D} (h : cellL S n = some xs) : isiD S "bool" (.loc n) = some false := kl (by decide +kernel) h
theorem isi_loc_str {n : Nat} {xs : List D} (h : cellL S n = some xs) : isiD S "str" (.loc n) = some false := kl (by decide +kernel) h
theorem isi_loc_tuple {n : Nat} {xs : List D} (h : cellL S n = some xs) : isiD S "tuple" (.loc n) = some false := kl (by decide +kernel) h
theorem isi_loc_list {n : Nat} {xs : List D} (h : cellL S n = some xs) : isiD S "list" (.loc n) = some true := kl (by decide +kernel) h
@[simp] theorem oLen_tup (xs : List D) : oLen [.tup xs] S = .ok (.int xs.length) S := (rfl)
@[simp] theorem oLen_cst (xs : List D) : oLen [.cst xs] S = .ok (.int xs.length) S := (rfl)
@[simp] theorem oLen_loc (n : Nat) : oLen [.loc n] S = match cellL S n with | some xs => .ok (.int xs.length) S | none => .stk := (rfl)
@[simp] theorem oTupF_ev (ds : List D) : oTupF ds S = .ok (.tup ds) S := (rfl)
@[simp] theorem oAllF_ev (ds : List D) : oAllF ds S = match blsD ds with | some bs => .ok (.bl (bs.all id)) S | none => .stk := (rfl)
@[simp] theorem oAnyF_ev (ds : List D) : oAnyF ds S = match blsD ds with | some bs => .ok (.bl (bs.any id)) S | none => .stk := (rfl)
@[simp] theorem oSumF_ev (ds : List D) : oSumF ds S = match intsD ds with | some bs => .ok (.int bs.sum) S | none => .stk := (rfl)
@[simp] theorem oLenF_ev (ds : List D) : oLenF ds S = .ok (.int ds.length) S := (rfl)
@[simp] theorem oInt_ev (c : Int → Int → Bool) (g : Int → Int → D) (i j : Int) : oInt c g (.int i) (.int j) S = if c i j then .ok (g i j) S else .stk := (rfl)
@[simp] theorem oAdd_int (i j : Int) : oAdd (.int i) (.int j) S = .ok (.int (i + j)) S := (rfl)
@[simp] theorem oAdd_tup (x y : List D) : oAdd (.tup x) (.tup y) S = if x.length + y.length ≤ sizeLine then .ok (.tup (x ++ y)) S else .stk := (rfl)
@[simp] theorem oAdd_str (x y : List Nat) : oAdd (.str x) (.str y) S = if x.length + y.length ≤ sizeLine then .ok (.str (x ++ y)) S else .stk := (rfl)
@[simp] theorem oAdd_loc (n m : Nat) : oAdd (.loc n) (.loc m) S = match mlst S n, mlst S m with
    | some x, some y => if x.length + y.length ≤ sizeLine then .ok (.loc S.length) (S ++ [.lst (x ++ y)]) else .stk
    | _, _ => .stk := (rfl)
@[simp] theorem oMulL_int (i j : Int) : oMulL (.int i) (.int j) S = if cMul i j then .ok (.int (i * j)) S else .stk := (rfl)
@[simp] theorem oMulL_loc (n : Nat) (k : Int) : oMulL (.loc n) (.int k) S = match mlst S n with
    | some x => if -(2 ^ 63) ≤ k ∧ k < 2 ^ 63 ∧ x.length * k.toNat ≤ sizeLine then .ok (.loc S.length) (S ++ [.lst (List.replicate k.toNat x).flatten]) else .stk
    | _ => .stk := (rfl)
@[simp] theorem oSl_tup (x : List D) (lo hi : Option Int) : oSl (.tup x) lo hi S = .ok (.tup (cutG x lo hi)) S := (rfl)
@[simp] theorem oIx_tup (xs : List D) (i : Int) : oIx (.tup xs) (.int i) S = optR (atI xs i) S := (rfl)
@[simp] theorem oIx_cst (xs : List D) (i : Int) : oIx (.cst xs) (.int i) S = optR (atI xs i) S := (rfl)
@[simp] theorem oIx_loc (n : Nat) (i : Int) : oIx (.loc n) (.int i) S = optR ((cellL S n).bind fun xs => atI xs i) S := (rfl)
@[simp] theorem oListC_seq (d : D) : oListC [d] S = match seqD S d with | some xs => .ok (.loc S.length) (S ++ [.lst xs]) | none => .stk := (rfl)
@[simp] theorem oTupC_seq (d : D) : oTupC [d] S = match seqD S d with | some xs => .ok (.tup xs) S | none => .stk := (rfl)
@[simp] theorem oSum_seq (d : D) : oSum [d] S = match (seqD S d).bind intsD with | some ns => .ok (.int ns.sum) S | none => .stk := (rfl)
@[simp] theorem oAbs_int (i : Int) : oAbs [.int i] S = .ok (.int (if i < 0 then -i else i)) S := (rfl)
@[simp] theorem oIntC_int (i : Int) : oIntC [.int i] S = .ok (.int i) S := (rfl)
@[simp] theorem oLt_int (i j : Int) : oLt (.int i) (.int j) S = .ok (.bl (decide (i < j))) S := (rfl)
@[simp] theorem oLe_int (i j : Int) : oLe (.int i) (.int j) S = .ok (.bl (decide (i ≤ j))) S := (rfl)
@[simp] theorem oIsN_non (d : D) : oIsN d .non S = .ok (.bl (isNonD d)) S := (rfl)
@[simp] theorem oNotN_non (d : D) : oNotN d .non S = .ok (.bl (!isNonD d)) S := (rfl)
@[simp] theorem pyD_int (n : Nat) (i : Int) : pyD n S (.int i) = some (.int i) := by cases n <;> rfl
@[simp] theorem pyD_bl (n : Nat) (i : Bool) : pyD n S (.bl i) = some (.bool i) := by cases n <;> rfl
@[simp] theorem pyD_non (n : Nat) : pyD n S .non = some .none := by cases n <;> rfl
@[simp] theorem pyD_str (n : Nat) (x : List Nat) : pyD n S (.str x) = if x.all (· < 0x110000) then some (.str ⟨x.toArray⟩) else none := by cases n <;> rfl
@[simp] theorem pyD_tup (n : Nat) (l : List D) : pyD (n + 1) S (.tup l) = (l.mapM (pyD n S)).map .tuple := (rfl)
@[simp] theorem pyD_cst (n : Nat) (l : List D) : pyD (n + 1) S (.cst l) = (l.mapM (pyD n S)).map .list := (rfl)
@[simp] theorem pyD_loc (n : Nat) (k : Nat) : pyD (n + 1) S (.loc k) = (cellL S k).bind fun xs => (xs.mapM (pyD n S)).map .list := (rfl)
@[simp] theorem oEq_int (i j : Int) : oEq (.int i) (.int j) S = .ok (.bl (i == j)) S := by simp [oEq, eqD, PyData.eqv]
@[simp] theorem oEq_bl (i j : Bool) : oEq (.bl i) (.bl j) S = .ok (.bl (i == j)) S := by simp [oEq, eqD, PyData.eqv]
@[simp] theorem oNe_int (i j : Int) : oNe (.int i) (.int j) S = .ok (.bl (i != j)) S := by simp [oNe, eqD, PyData.eqv, bne]
@[simp] theorem okAt_none (xs : List D) : (⟨xs, none⟩ : ItD).okAt S ↔ True := Iff.rfl
/-! the store -/
@[simp] theorem cellL_ev (n : Nat) : cellL S n = match S[n]? with | some (.lst xs) => some xs | _ => none := (rfl)
@[simp] theorem mlst_ev (n : Nat) : mlst S n = match S[n]? with | some (.lst xs) => some xs | _ => none := (rfl)
end

/-! ### loops -/
section
variable {it : ItD} {g : MG} {b : MS} {t : MT} {e : ME} {ws : List Nat}
/-- a for, by what holds of the items that are left, the slots and the store -/
theorem forGo_ind (J : List D → Sl → List Cell → Prop) (R : ResS → Prop) (hok : ∀ r sd S, J r sd S → it.okAt S) (hnil : ∀ sd S, J [] sd S → R (.nx sd S))
    (step : ∀ x r sd S, J (x :: r) sd S → ∃ sd1 S1, g x sd S = .ok sd1 S1 ∧ (match b sd1 S1 with
      | .nx sd2 S2 => J r sd2 S2 | .ct sd2 S2 => J r sd2 S2 | .bk sd2 S2 => R (.nx sd2 S2) | .rt d S2 => R (.rt d S2) | .exc x sd2 S2 => R (.exc x sd2 S2) | .stk => False)) :
    ∀ xs sd S, J xs sd S → R (forGo it g b xs sd S)
  | [], sd, S, h => by
    unfold forGo
    rw [if_pos (hok _ _ _ h)]
    exact hnil sd S h
  | x :: r, sd, S, h => by
    unfold forGo
    rw [if_pos (hok _ _ _ h)]
    obtain ⟨sd1, S1, e1, h1⟩ := step x r sd S h
    rw [e1]
    simp only
    generalize b sd1 S1 = rb at h1
    cases rb with
    | nx sd2 S2 => exact forGo_ind J R hok hnil step r sd2 S2 h1
    | ct sd2 S2 => exact forGo_ind J R hok hnil step r sd2 S2 h1
    | bk sd2 S2 => exact h1
    | rt d S2 => exact h1
    | exc x sd2 S2 => exact h1
    | stk => exact h1.elim
/-- .. that runs through, its end by the invariant -/
theorem forGo_run (J : List D → Sl → List Cell → Prop) (hok : ∀ r sd S, J r sd S → it.okAt S)
    (step : ∀ x r sd S, J (x :: r) sd S → ∃ sd1 S1 sd2 S2, g x sd S = .ok sd1 S1 ∧ b sd1 S1 = .nx sd2 S2 ∧ J r sd2 S2) {xs : List D} {sd : Sl} {S : List Cell} (h : J xs sd S) : ∃ sd' S', forGo it g b xs sd S = .nx sd' S' ∧ J [] sd' S' :=
  forGo_ind J (fun r => ∃ sd' S', r = .nx sd' S' ∧ J [] sd' S') hok (fun sd S h => ⟨sd, S, rfl, h⟩) (fun x r sd S h => by
    obtain ⟨sd1, S1, sd2, S2, e1, e2, h2⟩ := step x r sd S h
    refine ⟨sd1, S1, e1, ?_⟩
    rw [e2]
    exact h2) xs sd S h
/-- a while, by an invariant and a measure -/
theorem whGo_ind (J : Sl → List Cell → Prop) (μ : Sl → List Cell → Nat) (R : ResS → Prop)
    (step : ∀ sd S, J sd S → ∃ c S1, t sd S = .ok c S1 ∧ (if c = true then (match b sd S1 with
      | .nx sd2 S2 => J sd2 S2 ∧ μ sd2 S2 < μ sd S | .ct sd2 S2 => J sd2 S2 ∧ μ sd2 S2 < μ sd S | .bk sd2 S2 => R (.nx sd2 S2) | .rt d S2 => R (.rt d S2) | .exc x sd2 S2 => R (.exc x sd2 S2) | .stk => False) else R (.nx sd S1))) :
    ∀ n sd S, J sd S → μ sd S < n → R (whGo t b n sd S)
  | 0, sd, S, h, hn => absurd hn (Nat.not_lt_zero _)
  | n + 1, sd, S, h, hn => by
    obtain ⟨c, S1, e1, h1⟩ := step sd S h
    unfold whGo
    rw [e1, thenS_ok]
    cases c with
    | false => exact h1
    | true =>
      rw [if_pos rfl] at h1 ⊢
      generalize b sd S1 = rb at h1
      cases rb with
      | nx sd2 S2 => exact whGo_ind J μ R step n sd2 S2 h1.1 (by omega)
      | ct sd2 S2 => exact whGo_ind J μ R step n sd2 S2 h1.1 (by omega)
      | bk sd2 S2 => exact h1
      | rt d S2 => exact h1
      | exc x sd2 S2 => exact h1
      | stk => exact h1.elim
/-- a comprehension, by what holds of the items left, the list so far and the store -/
theorem lcGo_run {sd : Sl} (J : List D → List D → List Cell → Prop) (hok : ∀ r acc S, J r acc S → it.okAt S)
    (step : ∀ x r acc S, J (x :: r) acc S → ∃ sd1 S1 c S2, g x (wipeD sd ws) S = .ok sd1 S1 ∧ t sd1 S1 = .ok c S2 ∧ (if c = true then ∃ y S3, e sd1 S2 = .ok y S3 ∧ acc.length < sizeLine ∧ J r (acc ++ [y]) S3 else J r acc S2)) :
    ∀ xs acc S, J xs acc S → ∃ acc' S', lcGo it ws g t e sd xs acc S = .ok acc' S' ∧ J [] acc' S'
  | [], acc, S, h => by
    unfold lcGo
    rw [if_pos (hok _ _ _ h)]
    exact ⟨acc, S, rfl, h⟩
  | x :: r, acc, S, h => by
    unfold lcGo
    rw [if_pos (hok _ _ _ h)]
    obtain ⟨sd1, S1, c, S2, e1, e2, h1⟩ := step x r acc S h
    rw [e1]
    simp only [e2]
    cases c with
    | true =>
      rw [if_pos rfl] at h1 ⊢
      obtain ⟨y, S3, e3, hz, h3⟩ := h1
      rw [e3]
      simp only [hz, if_true]
      exact lcGo_run J hok step r _ S3 h3
    | false =>
      rw [if_neg Bool.false_ne_true] at h1 ⊢
      exact lcGo_run J hok step r _ S2 h1
/-- .. that maps, the store staying as it is -/
theorem lcGo_map {sd : Sl} {S : List Cell} (f : D → D) (hok : it.okAt S) : ∀ (xs acc : List D), (∀ x ∈ xs, ∃ sd1, g x (wipeD sd ws) S = .ok sd1 S ∧ t sd1 S = .ok true S ∧ e sd1 S = .ok (f x) S) → acc.length + xs.length ≤ sizeLine →
    lcGo it ws g t e sd xs acc S = .ok (acc ++ xs.map f) S
  | [], acc, _, _ => by
    unfold lcGo
    rw [if_pos hok]
    simp
  | x :: r, acc, h, hz => by
    unfold lcGo
    rw [if_pos hok]
    obtain ⟨sd1, e1, e2, e3⟩ := h x (by simp)
    rw [List.length_cons] at hz
    simp only [e1, e2, e3, if_true, if_pos (show acc.length < sizeLine by omega)]
    rw [lcGo_map f hok r (acc ++ [f x]) (fun y hy => h y (by simp [hy])) (by simp; omega)]
    simp
/-- .. with a test -/
theorem lcGo_filter {sd : Sl} {S : List Cell} (p : D → Bool) (f : D → D) (hok : it.okAt S) : ∀ (xs acc : List D), (∀ x ∈ xs, ∃ sd1, g x (wipeD sd ws) S = .ok sd1 S ∧ t sd1 S = .ok (p x) S ∧ (p x = true → e sd1 S = .ok (f x) S)) → acc.length + xs.length ≤ sizeLine →
    lcGo it ws g t e sd xs acc S = .ok (acc ++ (xs.filter p).map f) S
  | [], acc, _, _ => by
    unfold lcGo
    rw [if_pos hok]
    simp
  | x :: r, acc, h, hz => by
    unfold lcGo
    rw [if_pos hok]
    obtain ⟨sd1, e1, e2, e3⟩ := h x (by simp)
    rw [List.length_cons] at hz
    cases hp : p x with
    | true =>
      simp only [e1, e2, e3 hp, hp, if_true, if_pos (show acc.length < sizeLine by omega)]
      rw [lcGo_filter p f hok r (acc ++ [f x]) (fun y hy => h y (by simp [hy])) (by simp; omega)]
      simp [hp]
    | false =>
      simp only [e1, e2, hp, Bool.false_eq_true, if_false]
      rw [lcGo_filter p f hok r acc (fun y hy => h y (by simp [hy])) (by omega)]
      simp [hp]
end
/-- a law's own summary: it ends and gives True -/
noncomputable def mLaw (b : MS) (n : Nat) : List D → List Cell → Res D := by
  classical
  exact fun ds S => if S = [] ∧ ∃ S1, b (startD n ds) [] = .rt (.bl true) S1 then .ok (.bl true) [] else .stk
theorem mLaw_ref {b : MS} {n : Nat} (ds : List D) (S : List Cell) : RefR S (mLaw b n ds S) (b (startD n ds) S) := by
  unfold mLaw
  split
  · rename_i h
    obtain ⟨rfl, S1, e⟩ := h
    exact ⟨Nat.le_refl _, (by unfold D.bel; trivial), (fun c hc => .inl hc), S1, .inl (by simpa using e)⟩
  · trivial
theorem mLaw_true {b : MS} {n : Nat} {ds : List D} {S1 : List Cell} (h : b (startD n ds) [] = .rt (.bl true) S1) : ∃ S, mLaw b n ds [] = .ok (.bl true) S := by
  refine ⟨[], ?_⟩
  unfold mLaw
  rw [if_pos ⟨rfl, S1, h⟩]
/-- a def that changes nothing, and hands back data without cells -/
theorem ref_pure {S : List Cell} {d : D} {b : ResS} {junk : List Cell} (hd : d.bel S.length) (h : b = .rt d (S ++ junk)) : RefR S (.ok d S) b :=
  ⟨Nat.le_refl _, hd, fun c hc => .inl hc, junk, .inl h⟩
theorem ref_pure0 {S : List Cell} {d : D} {b : ResS} (hd : d.bel S.length) (h : b = .rt d S) : RefR S (.ok d S) b := ref_pure (junk := []) hd (by simpa using h)
@[simp] theorem bel_int {n : Nat} {i : Int} : D.bel n (.int i) ↔ True := by unfold D.bel; simp
@[simp] theorem bel_bl {n : Nat} {i : Bool} : D.bel n (.bl i) ↔ True := by unfold D.bel; simp
@[simp] theorem bel_non {n : Nat} : D.bel n .non ↔ True := by unfold D.bel; simp
@[simp] theorem bel_str {n : Nat} {i : List Nat} : D.bel n (.str i) ↔ True := by unfold D.bel; simp
@[simp] theorem bel_loc {n k : Nat} : D.bel n (.loc k) ↔ k < n := by unfold D.bel; exact Iff.rfl
@[simp] theorem bel_tup {n : Nat} {l : List D} : D.bel n (.tup l) ↔ D.belL n l := by unfold D.bel; exact Iff.rfl
@[simp] theorem bel_cst {n : Nat} {l : List D} : D.bel n (.cst l) ↔ D.belL n l := by unfold D.bel; exact Iff.rfl
@[simp] theorem belL_nil {n : Nat} : D.belL n [] ↔ True := by unfold D.belL; simp
@[simp] theorem belL_cons {n : Nat} {d : D} {l : List D} : D.belL n (d :: l) ↔ D.bel n d ∧ D.belL n l := by conv => lhs; unfold D.belL
theorem belL_of {n : Nat} : ∀ {l : List D}, (∀ d ∈ l, D.bel n d) → D.belL n l
  | [], _ => by simp
  | d :: l, h => by rw [belL_cons]; exact ⟨h d (by simp), belL_of fun e he => h e (by simp [he])⟩
theorem belL_ints {n : Nat} (l : List Int) : D.belL n (l.map D.int) := belL_of fun d hd => by
  obtain ⟨i, _, rfl⟩ := List.mem_map.mp hd
  simp
theorem intsD_map (ns : List Int) : intsD (ns.map D.int) = some ns := by
  induction ns with
  | nil => rfl
  | cons n ns ih => simp [intsD, ih]
theorem blsD_map (ns : List Bool) : blsD (ns.map D.bl) = some ns := by
  induction ns with
  | nil => rfl
  | cons n ns ih => simp [blsD, ih]
theorem atI_nat' {α : Type} (xs : List α) (j : Nat) : atI xs (j : Int) = xs[j]? := by
  cases h : xs[j]? with
  | some v => exact atI_nat h
  | none =>
    have hl := List.getElem?_eq_none_iff.mp h
    unfold atI ixN
    rw [if_pos (by omega), if_neg (by omega)]
    rfl
@[simp] theorem atI_zero {α : Type} (xs : List α) : atI xs 0 = xs[0]? := atI_nat' xs 0
@[simp] theorem atI_lit {α : Type} (xs : List α) (n : Nat) : atI xs (no_index (OfNat.ofNat n : Int)) = xs[(no_index (OfNat.ofNat n) : Nat)]? := atI_nat' xs n
@[simp] theorem atI_one {α : Type} (xs : List α) : atI xs 1 = xs[1]? := atI_nat' xs 1
@[simp] theorem ixN_zero {n : Nat} : ixN n 0 = if 0 < n then some 0 else none := by
  unfold ixN
  by_cases h : 0 < n
  · simp [h]
  · have : n = 0 := by omega
    subst this; simp
@[simp] theorem ixN_one {n : Nat} : ixN n 1 = if 1 < n then some 1 else none := by
  unfold ixN
  by_cases h : 1 < n
  · rw [if_pos (by omega), if_pos (by omega), if_pos h]; rfl
  · rw [if_pos (by omega), if_neg (by omega), if_neg h]
theorem ixN_nat {n j : Nat} (h : j < n) : ixN n (j : Int) = some j := by
  unfold ixN
  rw [if_pos (by omega), if_pos (by omega)]
  simp
end Fx
namespace Fx
open PySem PySem.Spec PyProof.Rows L2
theorem rngD_length (lo : Int) (n : Nat) : (rngD lo n).length = n := by simp [rngD]
theorem rngD_drop (lo : Int) (n i : Nat) (h : i < n) : (rngD lo n).drop i = .int (lo + (i : Nat)) :: (rngD lo n).drop (i + 1) := by
  rw [List.drop_eq_getElem_cons (by rw [rngD_length]; exact h)]
  congr 1
  simp [rngD]
/-- a for over a range, by an invariant of the turn's number -/
theorem forGo_rng {g : MG} {b : MS} {lo : Int} {n : Nat} (J : Nat → Sl → List Cell → Prop)
    (step : ∀ i sd S, i < n → J i sd S → ∃ sd1 S1 sd2 S2, g (.int (lo + (i : Nat))) sd S = .ok sd1 S1 ∧ b sd1 S1 = .nx sd2 S2 ∧ J (i + 1) sd2 S2) {sd : Sl} {S : List Cell} (h : J 0 sd S) :
    ∃ sd' S', forGo ⟨rngD lo n, none⟩ g b (rngD lo n) sd S = .nx sd' S' ∧ J n sd' S' := by
  obtain ⟨sd', S', e, i, hi, e2, h2⟩ := forGo_run (it := ⟨rngD lo n, none⟩) (g := g) (b := b) (fun xs sd S => ∃ i, i ≤ n ∧ xs = (rngD lo n).drop i ∧ J i sd S) (fun _ _ _ _ => trivial) (fun x r sd S ⟨i, hi, e, h⟩ => by
    by_cases hlt : i < n
    · rw [rngD_drop lo n i hlt] at e
      injection e with e1 e2
      subst e1 e2
      obtain ⟨sd1, S1, sd2, S2, a, b', c⟩ := step i sd S hlt h
      exact ⟨sd1, S1, sd2, S2, a, b', i + 1, hlt, rfl, c⟩
    · have : i = n := by omega
      subst this
      rw [List.drop_of_length_le (by rw [rngD_length]; exact Nat.le_refl _)] at e
      cases e) ⟨0, Nat.zero_le _, rfl, h⟩
  refine ⟨sd', S', e, ?_⟩
  have : i = n := by
    have := congrArg List.length e2
    rw [List.length_drop, rngD_length] at this
    simp at this
    omega
  subst this
  exact h2
/-- a for over items that stay as they are -/
theorem forGo_ix {g : MG} {b : MS} {xs : List D} {gd : Option Nat} (J : Nat → Sl → List Cell → Prop) (hok : ∀ i sd S, J i sd S → (⟨xs, gd⟩ : ItD).okAt S)
    (step : ∀ i x sd S, xs[i]? = some x → J i sd S → ∃ sd1 S1 sd2 S2, g x sd S = .ok sd1 S1 ∧ b sd1 S1 = .nx sd2 S2 ∧ J (i + 1) sd2 S2) {sd : Sl} {S : List Cell} (h : J 0 sd S) :
    ∃ sd' S', forGo ⟨xs, gd⟩ g b xs sd S = .nx sd' S' ∧ J xs.length sd' S' := by
  obtain ⟨sd', S', e, i, hi, e2, h2⟩ := forGo_run (it := ⟨xs, gd⟩) (g := g) (b := b) (fun ys sd S => ∃ i, i ≤ xs.length ∧ ys = xs.drop i ∧ J i sd S) (fun _ _ _ ⟨i, _, _, h⟩ => hok i _ _ h) (fun x r sd S ⟨i, hi, e, h⟩ => by
    by_cases hlt : i < xs.length
    · rw [List.drop_eq_getElem_cons hlt] at e
      injection e with e1 e2
      subst e1 e2
      obtain ⟨sd1, S1, sd2, S2, a, b', c⟩ := step i xs[i] sd S (by simp [hlt]) h
      exact ⟨sd1, S1, sd2, S2, a, b', i + 1, hlt, rfl, c⟩
    · have : i = xs.length := by omega
      subst this
      rw [List.drop_length] at e
      cases e) ⟨0, Nat.zero_le _, rfl, h⟩
  refine ⟨sd', S', e, ?_⟩
  have : i = xs.length := by
    have := congrArg List.length e2
    rw [List.length_drop] at this
    simp at this
    omega
  subst this
  exact h2
/-- [e for k in range(lo, lo + n)] -/
theorem lcGo_rng {g : MG} {t : MT} {e : ME} {ws : List Nat} {sd : Sl} {S : List Cell} {lo : Int} {n : Nat} (f : Nat → D) (hz : n ≤ sizeLine)
    (h : ∀ k, k < n → ∃ sd1, g (.int (lo + (k : Nat))) (wipeD sd ws) S = .ok sd1 S ∧ t sd1 S = .ok true S ∧ e sd1 S = .ok (f k) S) : lcGo ⟨rngD lo n, none⟩ ws g t e sd (rngD lo n) [] S = .ok ((List.range n).map f) S := by
  let F : D → D := fun d => match d with | .int i => f (i - lo).toNat | d => d
  have hF : ∀ k : Nat, F (.int (lo + (k : Nat))) = f k := fun k => by
    show f (lo + (k : Nat) - lo).toNat = f k
    congr 1
    omega
  rw [lcGo_map (it := ⟨rngD lo n, none⟩) F trivial (rngD lo n) [] (fun x hx => ?_) (by rw [rngD_length]; simpa using hz)]
  · congr 1
    unfold rngD
    rw [List.nil_append, List.map_map]
    exact List.map_congr_left fun k _ => hF k
  · obtain ⟨k, hk, rfl⟩ := List.mem_map.mp hx
    obtain ⟨sd1, a, b, c⟩ := h k (List.mem_range.mp hk)
    exact ⟨sd1, a, b, by rw [c, hF]⟩
theorem line_le {n : Nat} (h : n ≤ 16777216) : n ≤ sizeLine := by rw [sizeLine_eq]; exact h
end Fx

namespace K01
open PySem PySem.Spec PyProof.Rows L2 Fx
abbrev St := L2.St

/-! ### the mathematics -/
def isCount : D → Bool | .int i => decide (0 ≤ i) | _ => false
def isWidth : D → Bool | .int i => decide (1 ≤ i) && decide (i ≤ 16) | _ => false
def isWord (w : Nat) : D → Bool | .int i => decide (0 ≤ i) && decide (i < 2 ^ w) | _ => false
def isBit : D → Bool | .int i => decide (0 ≤ i) && decide (i < 2) | _ => false
def isBits (n : Int) : D → Bool | .tup l => decide ((l.length : Int) = n) && l.all isBit | _ => false
def bitL (v : Int) (n : Nat) : List Int := (List.range n).map fun k => v / 2 ^ k % 2
def wordL : List Int → Int
  | [] => 0
  | b :: r => b + 2 * wordL r
def oddN : Nat → Nat → Bool
  | 0, _ => false
  | n + 1, w => xor (decide (w % 2 = 1)) (oddN n (w / 2))
def splitL (b : List Int) : List Nat → List Int
  | [] => []
  | w :: r => wordL (b.take w) :: splitL (b.drop w) r
def joinL : List Int → List Nat → List Int
  | v :: vs, w :: ws => bitL v w ++ joinL vs ws
  | _, _ => []
def cellV (ns : List Int) (p : Nat) : Int := match ns[p]? with | some i => (i.natAbs : Int) | none => 0
/-- what drawing leaves on the tape -/
def nextV (ns : List Int) (p : Nat) (r s many : Int) : Int × Nat × Int × Int :=
  if r = 0 then
    let cell : Int := cellV ns p
    let p' := if p < ns.length then p + 1 else p
    if cell < 10 ^ 18 then
      let s' := (s * 69621 + cell * 40692 + 17) % 2147483647
      (s' / 5 * 48271 % 2147483647 % many, p', r, s')
    else (cell % many, p', cell / many, s)
  else (r % many, p, r / many, s)

/-! ### the summaries -/
def m_is_count : List D → List Cell → Res D := fun ds S => match ds with
  | [d] => if (tyD S d).isSome then .ok (.bl (isCount d)) S else .stk
  | _ => .stk
def m_is_width : List D → List Cell → Res D := fun ds S => match ds with
  | [d] => if (tyD S d).isSome then .ok (.bl (isWidth d)) S else .stk
  | _ => .stk
def m_is_word : List D → List Cell → Res D := fun ds S => match ds with
  | [d, .int w] => if (tyD S d).isSome ∧ 0 ≤ w ∧ w ≤ 1000 then .ok (.bl (isWord w.toNat d)) S else .stk
  | _ => .stk
def m_cut_word : List D → List Cell → Res D := fun ds S => match ds with
  | [.int v, .int w] => if 0 ≤ w ∧ w ≤ 1000 then .ok (.int (v % 2 ^ w.toNat)) S else .stk
  | _ => .stk
def m_bits_of : List D → List Cell → Res D := fun ds S => match ds with
  | [.int v, .int w] => if 0 ≤ w ∧ w ≤ 1000 then .ok (.tup ((bitL v w.toNat).map D.int)) S else .stk
  | _ => .stk
def m_word_of : List D → List Cell → Res D := fun ds S => match ds with
  | [.tup l] => match intsD l with
    | some bs => if l.length ≤ 1000 ∧ (∀ b ∈ bs, 0 ≤ b ∧ b ≤ 1) then .ok (.int (wordL bs)) S else .stk
    | none => .stk
  | _ => .stk
def m_is_bits : List D → List Cell → Res D := fun ds S => match ds with
  | [.tup l, .int n] => if l.length ≤ 1000 ∧ (∀ d ∈ l, (tyD S d).isSome = true) then .ok (.bl (isBits n (.tup l))) S else .stk
  | [d, .int n] => if (tyD S d).isSome then .ok (.bl false) S else .stk
  | _ => .stk
def m_is_odd_word : List D → List Cell → Res D := fun ds S => match ds with
  | [.int w] => if 0 ≤ w ∧ w < 2 ^ 63 then .ok (.bl (oddN 64 w.toNat)) S else .stk
  | _ => .stk

/-- the tape: the script's numbers, the place, the rest, the seed -/
def tapeAt (S : List Cell) (n : Nat) : Option (Nat × List Int × Nat × Int × Int) := match S[n]? with
  | some (.lst [.loc k, .int p, .int r, .int s]) => match S[k]? with
    | some (.lst xs) => match intsD xs with
      | some ns => if k ≠ n ∧ 0 ≤ p ∧ 0 ≤ r ∧ 0 ≤ s ∧ s < 2147483647 then some (k, ns, p.toNat, r, s) else none
      | none => none
    | _ => none
  | _ => none
def m__law_next : List D → List Cell → Res D := fun ds S => match ds with
  | [.loc n, .int many] => match tapeAt S n with
    | some (k, ns, p, r, s) => if 0 < many ∧ many < 1073741824 then
        .ok (.int (nextV ns p r s many).1) (S.set n (.lst [.loc k, .int (nextV ns p r s many).2.1, .int (nextV ns p r s many).2.2.1, .int (nextV ns p r s many).2.2.2])) else .stk
    | none => .stk
  | _ => .stk
def m_split_words : List D → List Cell → Res D := fun ds S => match ds with
  | [.tup bs, .tup ws] => match intsD bs, intsD ws with
    | some b, some w => if (∀ x ∈ b, 0 ≤ x ∧ x ≤ 1) ∧ (∀ x ∈ w, 1 ≤ x ∧ x ≤ 16) ∧ b.length ≤ 1000 ∧ w.length ≤ 100 then .ok (.tup ((splitL b (w.map Int.toNat)).map D.int)) S else .stk
    | _, _ => .stk
  | _ => .stk
def m_joined_bits : List D → List Cell → Res D := fun ds S => match ds with
  | [.tup vs, .tup ws] => match intsD vs, intsD ws with
    | some v, some w => if v.length = w.length ∧ (∀ x ∈ w, 1 ≤ x ∧ x ≤ 16) ∧ v.length ≤ 100 then .ok (.tup ((joinL v (w.map Int.toNat)).map D.int)) S else .stk
    | _, _ => .stk
  | _ => .stk
def sameL (R : D → D → Prop) : List D → List D → Prop
  | [], [] => True
  | x :: xs, y :: ys => R x y ∧ sameL R xs ys
  | _, _ => False
/-- one and the same data, of one kind, to a depth -/
def SameP (S : List Cell) : Nat → D → D → Prop
  | 0, _, _ => False
  | n + 1, a, b => match a, b with
    | .non, .non => True
    | .bl x, .bl y => x = y
    | .int x, .int y => x = y
    | .str x, .str y => x = y ∧ (∀ c ∈ x, c < 0x110000)
    | .tup xs, .tup ys => xs.length ≤ 1000 ∧ sameL (SameP S n) xs ys
    | .loc i, .loc j => ∃ xs ys, cellL S i = some xs ∧ cellL S j = some ys ∧ xs.length ≤ 1000 ∧ sameL (SameP S n) xs ys
    | _, _ => False
noncomputable def m_same (n : Nat) : List D → List Cell → Res D := by
  classical
  exact fun ds S => if ∃ a b, ds = [a, b] ∧ SameP S n a b then .ok (.bl true) S else .stk
noncomputable def m__law_same : List D → List Cell → Res D := m_same 9
end K01

namespace K01
open PySem PySem.Spec PyProof.Rows L2 Fx
def topS (i : Nat) : Stmt := PySem.Challenge.pw_chiptrue_k01_whole_words_and_bits.main.body.getD i (.Pass ⟨0, 0, 0, 0⟩)
structure GK (K : PySem.W.Frag) (mg : Str → Option Value) : Prop where
  b_abs : mg "abs" = none
  b_all : mg "all" = none
  b_bool : mg "bool" = none
  b_int : mg "int" = none
  b_isinstance : mg "isinstance" = none
  b_len : mg "len" = none
  b_list : mg "list" = none
  b_range : mg "range" = none
  b_str : mg "str" = none
  b_sum : mg "sum" = none
  b_tuple : mg "tuple" = none
  f_is_count : IsFn K mg "is_count" (topS 2) ["value"]
  f_is_width : IsFn K mg "is_width" (topS 3) ["value"]
  f_is_word : IsFn K mg "is_word" (topS 4) ["value", "width"]
  f_cut_word : IsFn K mg "cut_word" (topS 5) ["value", "width"]
  f_bits_of : IsFn K mg "bits_of" (topS 6) ["word", "width"]
  f_word_of : IsFn K mg "word_of" (topS 7) ["bits"]
  f_is_bits : IsFn K mg "is_bits" (topS 8) ["value", "size"]
  f_is_odd_word : IsFn K mg "is_odd_word" (topS 9) ["word"]
  f_split_words : IsFn K mg "split_words" (topS 10) ["bits", "widths"]
  f_joined_bits : IsFn K mg "joined_bits" (topS 11) ["words", "widths"]
  f__law_next : IsFn K mg "_law_next" (topS 13) ["tape", "many"]
  f__law_same : IsFn K mg "_law_same" (topS 14) ["told", "due"]
  f_law : IsFn K mg "law" (topS 15) ["script"]
  c_WIDEST : ∃ t, mg "WIDEST" = some (.int 16 t)
section
variable {P : Program} {w : World} {K : PySem.W.Frag} {mg : Str → Option Value} {base : Heap}
abbrev s_is_count : Stmt := topS 2
abbrev N_is_count : List Str := ["value"]
theorem sc_is_count : FnScope N_is_count ["value"] (defScope s_is_count) := ⟨rfl, rfl, rfl, by decide +kernel, rfl, by decide +kernel, by decide +kernel⟩
@[irreducible] def b_is_count : MS := (mRet (mAndV (mIsi "int" (mVar 0)) (mAndV (mNotV (mIsi "bool" (mVar 0))) (mBin oGe (mVar 0) (mC (.int 0))))))
theorem w_is_count (G : GK K mg) {m : List D → List Cell → Res D} (hm : ∀ ds S, ds.length = 1 → RefR S (m ds S) (b_is_count (startD 1 ds) S)) : FnM P w K mg base (0 + 1) "is_count" 1 m := by
  refine FnM.def (ps := ["value"]) G.f_is_count sc_is_count (fun f cdv A outer s H E tk hp hr => ?_) hm
  unfold b_is_count
  exact (sb_one (ss_ret (se_and (se_isi G.b_isinstance G.b_int (se_var 0)) (se_and (se_not (se_isi G.b_isinstance G.b_bool (se_var 0))) (se_one (se_cmp od_ge (se_var 0) se_int))))))
abbrev s_is_width : Stmt := topS 3
abbrev N_is_width : List Str := ["value"]
theorem sc_is_width : FnScope N_is_width ["value"] (defScope s_is_width) := ⟨rfl, rfl, rfl, by decide +kernel, rfl, by decide +kernel, by decide +kernel⟩
@[irreducible] def b_is_width : MS := (mRet (mAndV (mCall m_is_count (mCons (mVar 0) mNil)) (mChain oLe oLe (mC (.int 1)) (mVar 0) (mC (.int 16)))))
theorem w_is_width (G : GK K mg) (h_is_count : FnM P w K mg base 1 "is_count" 1 m_is_count) {m : List D → List Cell → Res D} (hm : ∀ ds S, ds.length = 1 → RefR S (m ds S) (b_is_width (startD 1 ds) S)) : FnM P w K mg base (1 + 1) "is_width" 1 m := by
  refine FnM.def (ps := ["value"]) G.f_is_width sc_is_width (fun f cdv A outer s H E tk hp hr => ?_) hm
  unfold b_is_width
  exact (sb_one (ss_ret (se_and (se_fn h_is_count (hr.mono (by omega)) tk (sa_cons (se_var 0) sa_nil) (len_cons len_nil)) (se_one (se_chain od_le od_le se_int (se_var 0) (se_globI G.c_WIDEST))))))
abbrev s_is_word : Stmt := topS 4
abbrev N_is_word : List Str := ["value", "width"]
theorem sc_is_word : FnScope N_is_word ["value", "width"] (defScope s_is_word) := ⟨rfl, rfl, rfl, by decide +kernel, rfl, by decide +kernel, by decide +kernel⟩
@[irreducible] def b_is_word : MS := (mRet (mAndV (mCall m_is_count (mCons (mVar 0) mNil)) (mBin oLt (mVar 0) (mBin oShl (mC (.int 1)) (mVar 1)))))
theorem w_is_word (G : GK K mg) (h_is_count : FnM P w K mg base 1 "is_count" 1 m_is_count) {m : List D → List Cell → Res D} (hm : ∀ ds S, ds.length = 2 → RefR S (m ds S) (b_is_word (startD 2 ds) S)) : FnM P w K mg base (1 + 1) "is_word" 2 m := by
  refine FnM.def (ps := ["value", "width"]) G.f_is_word sc_is_word (fun f cdv A outer s H E tk hp hr => ?_) hm
  unfold b_is_word
  exact (sb_one (ss_ret (se_and (se_fn h_is_count (hr.mono (by omega)) tk (sa_cons (se_var 0) sa_nil) (len_cons len_nil)) (se_one (se_cmp od_lt (se_var 0) (se_bin od_shl se_int (se_var 1)))))))
abbrev s_cut_word : Stmt := topS 5
abbrev N_cut_word : List Str := ["value", "width"]
theorem sc_cut_word : FnScope N_cut_word ["value", "width"] (defScope s_cut_word) := ⟨rfl, rfl, rfl, by decide +kernel, rfl, by decide +kernel, by decide +kernel⟩
@[irreducible] def b_cut_word : MS := (mRet (mBin oAnd (mVar 0) (mBin oSub (mBin oShl (mC (.int 1)) (mVar 1)) (mC (.int 1)))))
theorem w_cut_word (G : GK K mg) {m : List D → List Cell → Res D} (hm : ∀ ds S, ds.length = 2 → RefR S (m ds S) (b_cut_word (startD 2 ds) S)) : FnM P w K mg base (0 + 1) "cut_word" 2 m := by
  refine FnM.def (ps := ["value", "width"]) G.f_cut_word sc_cut_word (fun f cdv A outer s H E tk hp hr => ?_) hm
  unfold b_cut_word
  exact (sb_one (ss_ret (se_bin od_and (se_var 0) (se_bin od_sub (se_bin od_shl se_int (se_var 1)) se_int))))
abbrev s_bits_of : Stmt := topS 6
abbrev N_bits_of : List Str := ["word", "width", "k"]
theorem sc_bits_of : FnScope N_bits_of ["word", "width"] (defScope s_bits_of) := ⟨rfl, rfl, rfl, by decide +kernel, rfl, by decide +kernel, by decide +kernel⟩
@[irreducible] noncomputable def b_bits_of : MS := (mRet (mF oTupF (mLc (mRng1 (mCons (mVar 1) mNil)) [2] (gN 2) mYes (mBin oAnd (mBin oShr (mVar 0) (mVar 2)) (mC (.int 1))))))
theorem w_bits_of (G : GK K mg) {m : List D → List Cell → Res D} (hm : ∀ ds S, ds.length = 2 → RefR S (m ds S) (b_bits_of (startD 3 ds) S)) : FnM P w K mg base (0 + 1) "bits_of" 2 m := by
  refine FnM.def (ps := ["word", "width"]) G.f_bits_of sc_bits_of (fun f cdv A outer s H E tk hp hr => ?_) hm
  unfold b_bits_of
  exact (sb_one (ss_ret (se_callFT cf_tuple G.b_tuple (sl_lc [(("k" : Str), 2)] rfl sc_bits_of.nd (si_range1 G.b_range (sa_cons (se_var 1) sa_nil)) (blkOk_by (N := N_bits_of) (sc := defScope s_bits_of) (by decide +kernel)) (fun _ _ _ _ _ => (sgw_name 2 sc_bits_of.nd)) (fun _ _ _ _ _ => sts_nil) (fun _ _ _ _ _ => (se_bin od_and (se_bin od_shr (se_var 0) (se_var 2)) se_int))))))
abbrev s_word_of : Stmt := topS 7
abbrev N_word_of : List Str := ["bits", "total", "k"]
theorem sc_word_of : FnScope N_word_of ["bits"] (defScope s_word_of) := ⟨rfl, rfl, rfl, by decide +kernel, rfl, by decide +kernel, by decide +kernel⟩
@[irreducible] noncomputable def b_word_of : MS := (mSeq (mSet 1 (mC (.int 0)))
  (mSeq (mFor (mRng1 (mCons (mB oLen (mCons (mVar 0) mNil)) mNil)) (gN 2)
  (mAug 1 oAddI (mBin oShl (mBin oIx (mVar 0) (mVar 2)) (mVar 2))))
  (mRet (mVar 1))))
theorem w_word_of (G : GK K mg) {m : List D → List Cell → Res D} (hm : ∀ ds S, ds.length = 1 → RefR S (m ds S) (b_word_of (startD 3 ds) S)) : FnM P w K mg base (0 + 1) "word_of" 1 m := by
  refine FnM.def (ps := ["bits"]) G.f_word_of sc_word_of (fun f cdv A outer s H E tk hp hr => ?_) hm
  unfold b_word_of
  exact (sb_cons (ss_set 1 sc_word_of.nd se_int)
  (sb_cons (ss_for hp rfl (si_range1 G.b_range (sa_cons (se_callB cd_len G.b_len (sa_cons (se_var 0) sa_nil)) sa_nil)) (sg_name 2 sc_word_of.nd)
  (sb_one (ss_aug 1 od_iaddI sc_word_of.nd (se_bin od_shl (se_ix (se_var 0) (se_var 2)) (se_var 2)))))
  (sb_one (ss_ret (se_var 1)))))
abbrev s_is_bits : Stmt := topS 8
abbrev N_is_bits : List Str := ["value", "size", "one"]
theorem sc_is_bits : FnScope N_is_bits ["value", "size"] (defScope s_is_bits) := ⟨rfl, rfl, rfl, by decide +kernel, rfl, by decide +kernel, by decide +kernel⟩
@[irreducible] noncomputable def b_is_bits : MS := (mRet (mAndV (mIsi "tuple" (mVar 0)) (mAndV (mBin oEq (mB oLen (mCons (mVar 0) mNil)) (mVar 1)) (mF oAllF (mLc (mSeqI (mVar 0)) [2] (gN 2) mYes (mAndV (mCall m_is_count (mCons (mVar 2) mNil)) (mBin oLt (mVar 2) (mC (.int 2)))))))))
theorem w_is_bits (G : GK K mg) (h_is_count : FnM P w K mg base 1 "is_count" 1 m_is_count) {m : List D → List Cell → Res D} (hm : ∀ ds S, ds.length = 2 → RefR S (m ds S) (b_is_bits (startD 3 ds) S)) : FnM P w K mg base (1 + 1) "is_bits" 2 m := by
  refine FnM.def (ps := ["value", "size"]) G.f_is_bits sc_is_bits (fun f cdv A outer s H E tk hp hr => ?_) hm
  unfold b_is_bits
  exact (sb_one (ss_ret (se_and (se_isi G.b_isinstance G.b_tuple (se_var 0)) (se_and (se_cmp (od_eq hr.units) (se_callB cd_len G.b_len (sa_cons (se_var 0) sa_nil)) (se_var 1)) (se_one (se_callFB (cf_all rfl) G.b_all (sl_lc [(("one" : Str), 2)] rfl sc_is_bits.nd (si_seq (se_var 0)) (blkOk_by (N := N_is_bits) (sc := defScope s_is_bits) (by decide +kernel)) (fun _ _ _ _ _ => (sgw_name 2 sc_is_bits.nd)) (fun _ _ _ _ _ => sts_nil) (fun _ _ _ _ _ => (se_and (se_fn h_is_count (hr.mono (by omega)) takes0 (sa_cons (se_var 2) sa_nil) (len_cons len_nil)) (se_one (se_cmp od_lt (se_var 2) se_int)))))))))))
abbrev s_is_odd_word : Stmt := topS 9
abbrev N_is_odd_word : List Str := ["word", "found"]
theorem sc_is_odd_word : FnScope N_is_odd_word ["word"] (defScope s_is_odd_word) := ⟨rfl, rfl, rfl, by decide +kernel, rfl, by decide +kernel, by decide +kernel⟩
@[irreducible] def b_is_odd_word : MS := (mSeq (mSet 1 (mC (.int 0)))
  (mSeq (mWhile whN (mTst (mBin oGt (mVar 0) (mC (.int 0))))
  (mPar 1 0 (mCons (mBin oXor (mVar 1) (mBin oAnd (mVar 0) (mC (.int 1)))) (mCons (mBin oShr (mVar 0) (mC (.int 1))) mNil))))
  (mRet (mBin oEq (mVar 1) (mC (.int 1))))))
theorem w_is_odd_word (G : GK K mg) {m : List D → List Cell → Res D} (hm : ∀ ds S, ds.length = 1 → RefR S (m ds S) (b_is_odd_word (startD 2 ds) S)) : FnM P w K mg base (0 + 1) "is_odd_word" 1 m := by
  refine FnM.def (ps := ["word"]) G.f_is_odd_word sc_is_odd_word (fun f cdv A outer s H E tk hp hr => ?_) hm
  unfold b_is_odd_word
  exact (sb_cons (ss_set 1 sc_is_odd_word.nd se_int)
  (sb_cons (ss_while whN hp (st_cmp od_gt (se_var 0) se_int)
  (sb_one (ss_par 1 0 rfl sc_is_odd_word.nd (sa_cons (se_bin od_xor (se_var 1) (se_bin od_and (se_var 0) se_int)) (sa_cons (se_bin od_shr (se_var 0) se_int) sa_nil)))))
  (sb_one (ss_ret (se_cmp (od_eq hr.units) (se_var 1) se_int)))))
abbrev s_split_words : Stmt := topS 10
abbrev N_split_words : List Str := ["bits", "widths", "found", "here", "width"]
theorem sc_split_words : FnScope N_split_words ["bits", "widths"] (defScope s_split_words) := ⟨rfl, rfl, rfl, by decide +kernel, rfl, by decide +kernel, by decide +kernel⟩
@[irreducible] noncomputable def b_split_words : MS := (mSeq (mPar 2 3 (mCons (mLst mNil) (mCons (mC (.int 0)) mNil)))
  (mSeq (mFor (mSeqI (mVar 1)) (gN 4)
  (mSeq (mExpr (mAppend (mVar 2) (mCall m_word_of (mCons (mSlice (mVar 0) (mPart (mVar 3)) (mPart (mBin oAdd (mVar 3) (mVar 4)))) mNil))))
    (mAug 3 oAddI (mVar 4))))
  (mRet (mB oTupC (mCons (mVar 2) mNil)))))
theorem w_split_words (G : GK K mg) (h_word_of : FnM P w K mg base 1 "word_of" 1 m_word_of) {m : List D → List Cell → Res D} (hm : ∀ ds S, ds.length = 2 → RefR S (m ds S) (b_split_words (startD 5 ds) S)) : FnM P w K mg base (1 + 1) "split_words" 2 m := by
  refine FnM.def (ps := ["bits", "widths"]) G.f_split_words sc_split_words (fun f cdv A outer s H E tk hp hr => ?_) hm
  unfold b_split_words
  exact (sb_cons (ss_par 2 3 rfl sc_split_words.nd (sa_cons (se_lst sa_nil) (sa_cons se_int sa_nil)))
  (sb_cons (ss_for hp rfl (si_seq (se_var 1)) (sg_name 4 sc_split_words.nd)
  (sb_cons (ss_expr (se_append (se_var 2) (se_fn h_word_of (hr.mono (by omega)) tk (sa_cons (se_slice (se_var 0) (so_some (se_var 3)) (so_some (se_bin od_add (se_var 3) (se_var 4)))) sa_nil) (len_cons len_nil))))
    (sb_one (ss_aug 3 od_iaddI sc_split_words.nd (se_var 4)))))
  (sb_one (ss_ret (se_callTy cd_tuple G.b_tuple (sa_cons (se_var 2) sa_nil))))))
abbrev s_joined_bits : Stmt := topS 11
abbrev N_joined_bits : List Str := ["words", "widths", "found", "k"]
theorem sc_joined_bits : FnScope N_joined_bits ["words", "widths"] (defScope s_joined_bits) := ⟨rfl, rfl, rfl, by decide +kernel, rfl, by decide +kernel, by decide +kernel⟩
@[irreducible] noncomputable def b_joined_bits : MS := (mSeq (mSet 2 (mTup mNil))
  (mSeq (mFor (mRng1 (mCons (mB oLen (mCons (mVar 0) mNil)) mNil)) (gN 3)
  (mSet 2 (mBin oAdd (mVar 2) (mCall m_bits_of (mCons (mBin oIx (mVar 0) (mVar 3)) (mCons (mBin oIx (mVar 1) (mVar 3)) mNil))))))
  (mRet (mVar 2))))
theorem w_joined_bits (G : GK K mg) (h_bits_of : FnM P w K mg base 1 "bits_of" 2 m_bits_of) {m : List D → List Cell → Res D} (hm : ∀ ds S, ds.length = 2 → RefR S (m ds S) (b_joined_bits (startD 4 ds) S)) : FnM P w K mg base (1 + 1) "joined_bits" 2 m := by
  refine FnM.def (ps := ["words", "widths"]) G.f_joined_bits sc_joined_bits (fun f cdv A outer s H E tk hp hr => ?_) hm
  unfold b_joined_bits
  exact (sb_cons (ss_set 2 sc_joined_bits.nd (se_tup sa_nil))
  (sb_cons (ss_for hp rfl (si_range1 G.b_range (sa_cons (se_callB cd_len G.b_len (sa_cons (se_var 0) sa_nil)) sa_nil)) (sg_name 3 sc_joined_bits.nd)
  (sb_one (ss_set 2 sc_joined_bits.nd (se_bin od_add (se_var 2) (se_fn h_bits_of (hr.mono (by omega)) tk (sa_cons (se_ix (se_var 0) (se_var 3)) (sa_cons (se_ix (se_var 1) (se_var 3)) sa_nil)) (len_cons (len_cons len_nil)))))))
  (sb_one (ss_ret (se_var 2)))))
abbrev s__law_next : Stmt := topS 13
abbrev N__law_next : List Str := ["tape", "many", "rest", "cell"]
theorem sc__law_next : FnScope N__law_next ["tape", "many"] (defScope s__law_next) := ⟨rfl, rfl, rfl, by decide +kernel, rfl, by decide +kernel, by decide +kernel⟩
@[irreducible] def b__law_next : MS := (mSeq (mSet 2 (mBin oIx (mVar 0) (mC (.int 2))))
  (mSeq (mIf (mTst (mBin oEq (mVar 2) (mC (.int 0))))
  (mSeq (mSet 3 (mC (.int 0)))
    (mSeq (mIf (mTst (mBin oLt (mBin oIx (mVar 0) (mC (.int 1))) (mB oLen (mCons (mBin oIx (mVar 0) (mC (.int 0))) mNil))))
    (mSeq (mSet 3 (mB oAbs (mCons (mB oIntC (mCons (mBin oIx (mBin oIx (mVar 0) (mC (.int 0))) (mBin oIx (mVar 0) (mC (.int 1)))) mNil)) mNil)))
      (mAsg (gSubL (mVar 0) (mC (.int 1))) (mBin oAdd (mBin oIx (mVar 0) (mC (.int 1))) (mC (.int 1)))))
    mNext)
    (mSeq (mSet 2 (mVar 3))
    (mIf (mTst (mBin oLt (mVar 3) (mBin oPow (mC (.int 10)) (mC (.int 18)))))
    (mSeq (mAsg (gSubL (mVar 0) (mC (.int 3))) (mBin oMod (mB oIntC (mCons (mBin oAdd (mBin oAdd (mBin oMulL (mBin oIx (mVar 0) (mC (.int 3))) (mC (.int 69621))) (mBin oMulL (mVar 3) (mC (.int 40692)))) (mC (.int 17))) mNil)) (mC (.int 2147483647))))
      (mRet (mBin oMod (mBin oMod (mB oIntC (mCons (mBin oMulL (mB oIntC (mCons (mBin oDiv (mBin oIx (mVar 0) (mC (.int 3))) (mC (.int 5))) mNil)) (mC (.int 48271))) mNil)) (mC (.int 2147483647))) (mVar 1))))
    mNext))))
  mNext)
  (mSeq (mAsg (gSubL (mVar 0) (mC (.int 2))) (mBin oDiv (mVar 2) (mVar 1)))
  (mRet (mBin oMod (mB oIntC (mCons (mVar 2) mNil)) (mVar 1))))))
theorem w__law_next (G : GK K mg) {m : List D → List Cell → Res D} (hm : ∀ ds S, ds.length = 2 → RefR S (m ds S) (b__law_next (startD 4 ds) S)) : FnM P w K mg base (0 + 1) "_law_next" 2 m := by
  refine FnM.def (ps := ["tape", "many"]) G.f__law_next sc__law_next (fun f cdv A outer s H E tk hp hr => ?_) hm
  unfold b__law_next
  exact (sb_cons (ss_set 2 sc__law_next.nd (se_ix (se_var 0) se_int))
  (sb_cons (ss_if (st_cmp (od_eq hr.units) (se_var 2) se_int)
  (sb_cons (ss_set 3 sc__law_next.nd se_int)
    (sb_cons (ss_if (st_cmp od_lt (se_ix (se_var 0) se_int) (se_callB cd_len G.b_len (sa_cons (se_ix (se_var 0) se_int) sa_nil)))
    (sb_cons (ss_set 3 sc__law_next.nd (se_callB cd_abs G.b_abs (sa_cons (se_callTy cd_int G.b_int (sa_cons (se_ix (se_ix (se_var 0) se_int) (se_ix (se_var 0) se_int)) sa_nil)) sa_nil)))
      (sb_one (ss_asg (se_bin od_add (se_ix (se_var 0) se_int) se_int) (sg_sub (se_var 0) se_int))))
    sb_nil)
    (sb_cons (ss_set 2 sc__law_next.nd (se_var 3))
    (sb_one (ss_if (st_cmp od_lt (se_var 3) (se_bin od_pow se_int se_int))
    (sb_cons (ss_asg (se_bin od_mod (se_callTy cd_int G.b_int (sa_cons (se_bin od_add (se_bin od_add (se_bin od_mulL (se_ix (se_var 0) se_int) se_int) (se_bin od_mulL (se_var 3) se_int)) se_int) sa_nil)) se_int) (sg_sub (se_var 0) se_int))
      (sb_one (ss_ret (se_bin od_mod (se_bin od_mod (se_callTy cd_int G.b_int (sa_cons (se_bin od_mulL (se_callTy cd_int G.b_int (sa_cons (se_bin od_div (se_ix (se_var 0) se_int) se_int) sa_nil)) se_int) sa_nil)) se_int) (se_var 1)))))
    sb_nil)))))
  sb_nil)
  (sb_cons (ss_asg (se_bin od_div (se_var 2) (se_var 1)) (sg_sub (se_var 0) se_int))
  (sb_one (ss_ret (se_bin od_mod (se_callTy cd_int G.b_int (sa_cons (se_var 2) sa_nil)) (se_var 1)))))))
abbrev s__law_same : Stmt := topS 14
abbrev N__law_same : List Str := ["told", "due", "k"]
theorem sc__law_same : FnScope N__law_same ["told", "due"] (defScope s__law_same) := ⟨rfl, rfl, rfl, by decide +kernel, rfl, by decide +kernel, by decide +kernel⟩
@[irreducible] noncomputable def b__law_same (r__law_same : List D → List Cell → Res D) : MS := (mSeq (mIf (mTst (mBin oIsN (mVar 1) (mC .non)))
  (mRet (mBin oIsN (mVar 0) (mC .non)))
  mNext)
  (mSeq (mIf (mTru (mIsi "bool" (mVar 1)))
  (mRet (mAndV (mIsi "bool" (mVar 0)) (mBin oEq (mVar 0) (mVar 1))))
  mNext)
  (mSeq (mIf (mTru (mIsi "int" (mVar 1)))
  (mRet (mAndV (mIsi "int" (mVar 0)) (mAndV (mNotV (mIsi "bool" (mVar 0))) (mBin oEq (mVar 0) (mVar 1)))))
  mNext)
  (mSeq (mIf (mTru (mIsi "str" (mVar 1)))
  (mRet (mAndV (mIsi "str" (mVar 0)) (mBin oEq (mVar 0) (mVar 1))))
  mNext)
  (mSeq (mIf (mOr (mAnd (mTru (mIsi "list" (mVar 1))) (mNot (mTru (mIsi "list" (mVar 0))))) (mAnd (mTru (mIsi "tuple" (mVar 1))) (mNot (mTru (mIsi "tuple" (mVar 0))))))
  (mRet (mC (.bl false)))
  mNext)
  (mRet (mAndV (mBin oEq (mB oLen (mCons (mVar 0) mNil)) (mB oLen (mCons (mVar 1) mNil))) (mBin oEq (mFresh (mLc (mRng1 (mCons (mB oLen (mCons (mVar 1) mNil)) mNil)) [2] (gN 2) (mNot (mTru (mCall r__law_same (mCons (mBin oIx (mVar 0) (mVar 2)) (mCons (mBin oIx (mVar 1) (mVar 2)) mNil))))) (mC (.int 1)))) (mLst mNil)))))))))
theorem w__law_same (G : GK K mg) {k : Nat} (hk : 0 ≤ k) {r__law_same : List D → List Cell → Res D} (h_rec : FnM P w K mg base k "_law_same" 2 r__law_same) {m : List D → List Cell → Res D} (hm : ∀ ds S, ds.length = 2 → RefR S (m ds S) (b__law_same r__law_same (startD 3 ds) S)) : FnM P w K mg base (k + 1) "_law_same" 2 m := by
  refine FnM.def (ps := ["told", "due"]) G.f__law_same sc__law_same (fun f cdv A outer s H E tk hp hr => ?_) hm
  unfold b__law_same
  exact (sb_cons (ss_if (st_cmp od_isN (se_var 1) se_non)
  (sb_one (ss_ret (se_cmp od_isN (se_var 0) se_non)))
  sb_nil)
  (sb_cons (ss_if (st_tru (se_isi G.b_isinstance G.b_bool (se_var 1)))
  (sb_one (ss_ret (se_and (se_isi G.b_isinstance G.b_bool (se_var 0)) (se_one (se_cmp (od_eq hr.units) (se_var 0) (se_var 1))))))
  sb_nil)
  (sb_cons (ss_if (st_tru (se_isi G.b_isinstance G.b_int (se_var 1)))
  (sb_one (ss_ret (se_and (se_isi G.b_isinstance G.b_int (se_var 0)) (se_and (se_not (se_isi G.b_isinstance G.b_bool (se_var 0))) (se_one (se_cmp (od_eq hr.units) (se_var 0) (se_var 1)))))))
  sb_nil)
  (sb_cons (ss_if (st_tru (se_isi G.b_isinstance G.b_str (se_var 1)))
  (sb_one (ss_ret (se_and (se_isi G.b_isinstance G.b_str (se_var 0)) (se_one (se_cmp (od_eq hr.units) (se_var 0) (se_var 1))))))
  sb_nil)
  (sb_cons (ss_if (st_sw (sw_or (st_sw (sw_and (st_tru (se_isi G.b_isinstance G.b_list (se_var 1))) (sw_and1 (st_not (st_tru (se_isi G.b_isinstance G.b_list (se_var 0))))))) (sw_or1 (st_sw (sw_and (st_tru (se_isi G.b_isinstance G.b_tuple (se_var 1))) (sw_and1 (st_not (st_tru (se_isi G.b_isinstance G.b_tuple (se_var 0))))))))))
  (sb_one (ss_ret se_bl))
  sb_nil)
  (sb_one (ss_ret (se_and (se_cmp (od_eq hr.units) (se_callB cd_len G.b_len (sa_cons (se_var 0) sa_nil)) (se_callB cd_len G.b_len (sa_cons (se_var 1) sa_nil))) (se_one (se_cmp (od_eq hr.units) (se_fresh (sl_lc [(("k" : Str), 2)] rfl sc__law_same.nd (si_range1 G.b_range (sa_cons (se_callB cd_len G.b_len (sa_cons (se_var 1) sa_nil)) sa_nil)) (blkOk_by (N := N__law_same) (sc := defScope s__law_same) (by decide +kernel)) (fun _ _ _ _ _ => (sgw_name 2 sc__law_same.nd)) (fun _ _ _ _ _ => (sts_one (st_not (st_tru (se_fn h_rec (hr.mono (by omega)) takes0 (sa_cons (se_ix (se_var 0) (se_var 2)) (sa_cons (se_ix (se_var 1) (se_var 2)) sa_nil)) (len_cons (len_cons len_nil))))))) (fun _ _ _ _ _ => se_int))) (se_lst sa_nil)))))))))))
abbrev s_law : Stmt := topS 15
abbrev N_law : List Str := ["script", "tape", "width", "word", "other", "bits", "widths", "words", "row", "k", "odd", "told", "some", "one", "j"]
theorem sc_law : FnScope N_law ["script"] (defScope s_law) := ⟨rfl, rfl, rfl, by decide +kernel, rfl, by decide +kernel, by decide +kernel⟩
@[irreducible] noncomputable def b_law : MS := (mSeq (mSet 1 (mLst (mCons (mB oListC (mCons (mVar 0) mNil)) (mCons (mC (.int 0)) (mCons (mC (.int 0)) (mCons (mC (.int 1)) mNil))))))
  (mSeq (mSet 2 (mBin oAdd (mC (.int 1)) (mCall m__law_next (mCons (mVar 1) (mCons (mC (.int 16)) mNil)))))
  (mSeq (mAsg (gTupD 2 (gsCons (gN 3) (gsCons (gN 4) gsNil))) (mTup (mCons (mCall m__law_next (mCons (mVar 1) (mCons (mBin oShl (mC (.int 1)) (mVar 2)) mNil))) (mCons (mBin oSub (mCall m__law_next (mCons (mVar 1) (mCons (mBin oShl (mC (.int 1)) (mC (.int 18))) mNil))) (mBin oShl (mC (.int 1)) (mC (.int 17)))) mNil))))
  (mSeq (mSet 5 (mF oTupF (mLc (mRng1 (mCons (mVar 2) mNil)) [9] (gN 9) mYes (mBin oAnd (mBin oDiv (mVar 3) (mBin oShl (mC (.int 1)) (mVar 9))) (mC (.int 1))))))
  (mSeq (mIf (mNot (mTru (mCall m__law_same (mCons (mLst (mCons (mCall m_bits_of (mCons (mVar 3) (mCons (mVar 2) mNil))) (mCons (mCall m_word_of (mCons (mVar 5) mNil)) (mCons (mCall m_cut_word (mCons (mVar 4) (mCons (mVar 2) mNil))) (mCons (mCall m_is_odd_word (mCons (mVar 3) mNil)) mNil))))) (mCons (mLst (mCons (mVar 5) (mCons (mVar 3) (mCons (mBin oMod (mB oIntC (mCons (mVar 4) mNil)) (mBin oShl (mC (.int 1)) (mVar 2))) (mCons (mBin oEq (mBin oAnd (mB oSum (mCons (mVar 5) mNil)) (mC (.int 1))) (mC (.int 1))) mNil))))) mNil)))))
  (mRet (mC (.bl false)))
  mNext)
  (mSeq (mSet 6 (mF oTupF (mLc (mRng1 (mCons (mCall m__law_next (mCons (mVar 1) (mCons (mC (.int 4)) mNil))) mNil)) [9] (gN 9) mYes (mBin oAdd (mC (.int 1)) (mCall m__law_next (mCons (mVar 1) (mCons (mC (.int 16)) mNil)))))))
  (mSeq (mSet 7 (mF oTupF (mLc (mSeqI (mVar 6)) [13] (gN 13) mYes (mCall m__law_next (mCons (mVar 1) (mCons (mBin oShl (mC (.int 1)) (mVar 13)) mNil))))))
  (mSeq (mSet 8 (mTup mNil))
  (mSeq (mFor (mRng1 (mCons (mB oLen (mCons (mVar 7) mNil)) mNil)) (gN 9)
  (mSet 8 (mBin oAdd (mVar 8) (mF oTupF (mLc (mRng1 (mCons (mBin oIx (mVar 6) (mVar 9)) mNil)) [14] (gN 14) mYes (mBin oAnd (mBin oShr (mBin oIx (mVar 7) (mVar 9)) (mVar 14)) (mC (.int 1))))))))
  (mSeq (mIf (mNot (mTru (mCall m__law_same (mCons (mLst (mCons (mCall m_joined_bits (mCons (mVar 7) (mCons (mVar 6) mNil))) (mCons (mCall m_split_words (mCons (mVar 8) (mCons (mVar 6) mNil))) (mCons (mC (.int 16)) mNil)))) (mCons (mLst (mCons (mVar 8) (mCons (mVar 7) (mCons (mC (.int 16)) mNil)))) mNil)))))
  (mRet (mC (.bl false)))
  mNext)
  (mSeq (mSet 10 (mLst (mCons (mC (.int 0)) (mCons (mC (.int 1)) (mCons (mC (.int 16)) (mCons (mC (.int 17)) (mCons (mNeg (mC (.int 1))) (mCons (mC (.bl true)) (mCons (mC .non) (mCons (mC (.str (cs "1"))) (mCons (mTup (mCons (mC (.int 1)) mNil)) mNil)))))))))))
  (mSeq (mIf (mNot (mTru (mCall m__law_same (mCons (mLst (mCons (mFresh (mLc (mSeqI (mVar 10)) [13] (gN 13) mYes (mCall m_is_count (mCons (mVar 13) mNil)))) (mCons (mFresh (mLc (mSeqI (mVar 10)) [13] (gN 13) mYes (mCall m_is_width (mCons (mVar 13) mNil)))) mNil))) (mCons (mLst (mCons (mBin oAdd (mBin oMulL (mLst (mCons (mC (.bl true)) mNil)) (mC (.int 4))) (mBin oMulL (mLst (mCons (mC (.bl false)) mNil)) (mC (.int 5)))) (mCons (mBin oAdd (mLst (mCons (mC (.bl false)) (mCons (mC (.bl true)) (mCons (mC (.bl true)) mNil)))) (mBin oMulL (mLst (mCons (mC (.bl false)) mNil)) (mC (.int 6)))) mNil))) mNil)))))
  (mRet (mC (.bl false)))
  mNext)
  (mSeq (mSet 11 (mFresh (mLc (mSeqI (mTup (mCons (mVar 3) (mCons (mBin oSub (mBin oShl (mC (.int 1)) (mVar 2)) (mC (.int 1))) (mCons (mBin oShl (mC (.int 1)) (mVar 2)) (mCons (mNeg (mC (.int 1))) (mCons (mC (.bl true)) (mCons (mC .non) (mCons (mC (.str (cs "0"))) mNil))))))))) [13] (gN 13) mYes (mCall m_is_word (mCons (mVar 13) (mCons (mVar 2) mNil))))))
  (mSeq (mIf (mNot (mTru (mCall m__law_same (mCons (mVar 11) (mCons (mBin oAdd (mLst (mCons (mC (.bl true)) (mCons (mC (.bl true)) mNil))) (mBin oMulL (mLst (mCons (mC (.bl false)) mNil)) (mC (.int 5)))) mNil)))))
  (mRet (mC (.bl false)))
  mNext)
  (mSeq (mSet 12 (mLst (mCons (mVar 5) (mCons (mB oListC (mCons (mVar 5) mNil)) (mCons (mBin oAdd (mVar 5) (mTup (mCons (mC (.int 0)) mNil))) (mCons (mSlice (mVar 5) (mPart (mC (.int 1))) mNoPart) (mCons (mC .non) (mCons (mBin oAdd (mSlice (mVar 5) mNoPart (mPart (mNeg (mC (.int 1))))) (mTup (mCons (mC (.int 2)) mNil))) (mCons (mBin oAdd (mSlice (mVar 5) mNoPart (mPart (mNeg (mC (.int 1))))) (mTup (mCons (mC (.bl true)) mNil))) (mCons (mBin oAdd (mSlice (mVar 5) mNoPart (mPart (mNeg (mC (.int 1))))) (mTup (mCons (mNeg (mC (.int 1))) mNil))) mNil))))))))))
  (mRet (mCall m__law_same (mCons (mFresh (mLc (mSeqI (mVar 12)) [13] (gN 13) mYes (mCall m_is_bits (mCons (mVar 13) (mCons (mVar 2) mNil))))) (mCons (mBin oAdd (mLst (mCons (mC (.bl true)) mNil)) (mBin oMulL (mLst (mCons (mC (.bl false)) mNil)) (mC (.int 7)))) mNil)))))))))))))))))))
theorem w_law (G : GK K mg) (h__law_next : FnM P w K mg base 1 "_law_next" 2 m__law_next) (h__law_same : FnM P w K mg base 10 "_law_same" 2 m__law_same) (h_bits_of : FnM P w K mg base 1 "bits_of" 2 m_bits_of) (h_cut_word : FnM P w K mg base 1 "cut_word" 2 m_cut_word) (h_is_bits : FnM P w K mg base 2 "is_bits" 2 m_is_bits) (h_is_count : FnM P w K mg base 1 "is_count" 1 m_is_count) (h_is_odd_word : FnM P w K mg base 1 "is_odd_word" 1 m_is_odd_word) (h_is_width : FnM P w K mg base 2 "is_width" 1 m_is_width) (h_is_word : FnM P w K mg base 2 "is_word" 2 m_is_word) (h_joined_bits : FnM P w K mg base 2 "joined_bits" 2 m_joined_bits) (h_split_words : FnM P w K mg base 2 "split_words" 2 m_split_words) (h_word_of : FnM P w K mg base 1 "word_of" 1 m_word_of) {f : Addr} {fd : FuncData} (F : Fun K "law" "law" s_law f fd) {m : List D → List Cell → Res D} (hm : ∀ ds S, ds.length = 1 → RefR S (m ds S) (b_law (startD 15 ds) S)) : FnOk P w K mg base (L2.CX P w) (10 + 1) f fd ["script"] (spM mg K 1 m) := by
  refine fnOk_def (ps := ["script"]) F sc_law (fun f cdv A outer s H E tk hp hr => ?_) hm
  unfold b_law
  exact (sb_cons (ss_set 1 sc_law.nd (se_lst (sa_cons (se_callTy cd_list G.b_list (sa_cons (se_var 0) sa_nil)) (sa_cons se_int (sa_cons se_int (sa_cons se_int sa_nil))))))
  (sb_cons (ss_set 2 sc_law.nd (se_bin od_add se_int (se_fn h__law_next (hr.mono (by omega)) tk (sa_cons (se_var 1) (sa_cons se_int sa_nil)) (len_cons (len_cons len_nil)))))
  (sb_cons (ss_asg (se_tup (sa_cons (se_fn h__law_next (hr.mono (by omega)) tk (sa_cons (se_var 1) (sa_cons (se_bin od_shl se_int (se_var 2)) sa_nil)) (len_cons (len_cons len_nil))) (sa_cons (se_bin od_sub (se_fn h__law_next (hr.mono (by omega)) tk (sa_cons (se_var 1) (sa_cons (se_bin od_shl se_int se_int) sa_nil)) (len_cons (len_cons len_nil))) (se_bin od_shl se_int se_int)) sa_nil))) (sg_tup rfl (sgs_cons (sg_name 3 sc_law.nd) (sgs_cons (sg_name 4 sc_law.nd) sgs_nil (gN_noex 4) gsNil_noex) (gN_noex 3) (gsCons_noex (gN_noex 4) gsNil_noex))))
  (sb_cons (ss_set 5 sc_law.nd (se_callFT cf_tuple G.b_tuple (sl_lc [(("k" : Str), 9)] rfl sc_law.nd (si_range1 G.b_range (sa_cons (se_var 2) sa_nil)) (blkOk_by (N := N_law) (sc := defScope s_law) (by decide +kernel)) (fun _ _ _ _ _ => (sgw_name 9 sc_law.nd)) (fun _ _ _ _ _ => sts_nil) (fun _ _ _ _ _ => (se_bin od_and (se_bin od_div (se_var 3) (se_bin od_shl se_int (se_var 9))) se_int)))))
  (sb_cons (ss_if (st_not (st_tru (se_fn h__law_same (hr.mono (by omega)) tk (sa_cons (se_lst (sa_cons (se_fn h_bits_of (hr.mono (by omega)) tk (sa_cons (se_var 3) (sa_cons (se_var 2) sa_nil)) (len_cons (len_cons len_nil))) (sa_cons (se_fn h_word_of (hr.mono (by omega)) tk (sa_cons (se_var 5) sa_nil) (len_cons len_nil)) (sa_cons (se_fn h_cut_word (hr.mono (by omega)) tk (sa_cons (se_var 4) (sa_cons (se_var 2) sa_nil)) (len_cons (len_cons len_nil))) (sa_cons (se_fn h_is_odd_word (hr.mono (by omega)) tk (sa_cons (se_var 3) sa_nil) (len_cons len_nil)) sa_nil))))) (sa_cons (se_lst (sa_cons (se_var 5) (sa_cons (se_var 3) (sa_cons (se_bin od_mod (se_callTy cd_int G.b_int (sa_cons (se_var 4) sa_nil)) (se_bin od_shl se_int (se_var 2))) (sa_cons (se_cmp (od_eq hr.units) (se_bin od_and (se_callB (cd_sum rfl) G.b_sum (sa_cons (se_var 5) sa_nil)) se_int) se_int) sa_nil))))) sa_nil)) (len_cons (len_cons len_nil)))))
  (sb_one (ss_ret se_bl))
  sb_nil)
  (sb_cons (ss_set 6 sc_law.nd (se_callFT cf_tuple G.b_tuple (sl_lc [(("k" : Str), 9)] rfl sc_law.nd (si_range1 G.b_range (sa_cons (se_fn h__law_next (hr.mono (by omega)) tk (sa_cons (se_var 1) (sa_cons se_int sa_nil)) (len_cons (len_cons len_nil))) sa_nil)) (blkOk_by (N := N_law) (sc := defScope s_law) (by decide +kernel)) (fun _ _ _ _ _ => (sgw_name 9 sc_law.nd)) (fun _ _ _ _ _ => sts_nil) (fun _ _ _ _ _ => (se_bin od_add se_int (se_fn h__law_next (hr.mono (by omega)) takes0 (sa_cons (se_var 1) (sa_cons se_int sa_nil)) (len_cons (len_cons len_nil))))))))
  (sb_cons (ss_set 7 sc_law.nd (se_callFT cf_tuple G.b_tuple (sl_lc [(("one" : Str), 13)] rfl sc_law.nd (si_seq (se_var 6)) (blkOk_by (N := N_law) (sc := defScope s_law) (by decide +kernel)) (fun _ _ _ _ _ => (sgw_name 13 sc_law.nd)) (fun _ _ _ _ _ => sts_nil) (fun _ _ _ _ _ => (se_fn h__law_next (hr.mono (by omega)) takes0 (sa_cons (se_var 1) (sa_cons (se_bin od_shl se_int (se_var 13)) sa_nil)) (len_cons (len_cons len_nil)))))))
  (sb_cons (ss_set 8 sc_law.nd (se_tup sa_nil))
  (sb_cons (ss_for hp rfl (si_range1 G.b_range (sa_cons (se_callB cd_len G.b_len (sa_cons (se_var 7) sa_nil)) sa_nil)) (sg_name 9 sc_law.nd)
  (sb_one (ss_set 8 sc_law.nd (se_bin od_add (se_var 8) (se_callFT cf_tuple G.b_tuple (sl_lc [(("j" : Str), 14)] rfl sc_law.nd (si_range1 G.b_range (sa_cons (se_ix (se_var 6) (se_var 9)) sa_nil)) (blkOk_by (N := N_law) (sc := defScope s_law) (by decide +kernel)) (fun _ _ _ _ _ => (sgw_name 14 sc_law.nd)) (fun _ _ _ _ _ => sts_nil) (fun _ _ _ _ _ => (se_bin od_and (se_bin od_shr (se_ix (se_var 7) (se_var 9)) (se_var 14)) se_int))))))))
  (sb_cons (ss_if (st_not (st_tru (se_fn h__law_same (hr.mono (by omega)) tk (sa_cons (se_lst (sa_cons (se_fn h_joined_bits (hr.mono (by omega)) tk (sa_cons (se_var 7) (sa_cons (se_var 6) sa_nil)) (len_cons (len_cons len_nil))) (sa_cons (se_fn h_split_words (hr.mono (by omega)) tk (sa_cons (se_var 8) (sa_cons (se_var 6) sa_nil)) (len_cons (len_cons len_nil))) (sa_cons (se_globI G.c_WIDEST) sa_nil)))) (sa_cons (se_lst (sa_cons (se_var 8) (sa_cons (se_var 7) (sa_cons se_int sa_nil)))) sa_nil)) (len_cons (len_cons len_nil)))))
  (sb_one (ss_ret se_bl))
  sb_nil)
  (sb_cons (ss_set 10 sc_law.nd (se_lst (sa_cons se_int (sa_cons se_int (sa_cons se_int (sa_cons se_int (sa_cons (se_neg se_int) (sa_cons se_bl (sa_cons se_non (sa_cons se_str (sa_cons (se_tup (sa_cons se_int sa_nil)) sa_nil)))))))))))
  (sb_cons (ss_if (st_not (st_tru (se_fn h__law_same (hr.mono (by omega)) tk (sa_cons (se_lst (sa_cons (se_fresh (sl_lc [(("one" : Str), 13)] rfl sc_law.nd (si_seq (se_var 10)) (blkOk_by (N := N_law) (sc := defScope s_law) (by decide +kernel)) (fun _ _ _ _ _ => (sgw_name 13 sc_law.nd)) (fun _ _ _ _ _ => sts_nil) (fun _ _ _ _ _ => (se_fn h_is_count (hr.mono (by omega)) takes0 (sa_cons (se_var 13) sa_nil) (len_cons len_nil))))) (sa_cons (se_fresh (sl_lc [(("one" : Str), 13)] rfl sc_law.nd (si_seq (se_var 10)) (blkOk_by (N := N_law) (sc := defScope s_law) (by decide +kernel)) (fun _ _ _ _ _ => (sgw_name 13 sc_law.nd)) (fun _ _ _ _ _ => sts_nil) (fun _ _ _ _ _ => (se_fn h_is_width (hr.mono (by omega)) takes0 (sa_cons (se_var 13) sa_nil) (len_cons len_nil))))) sa_nil))) (sa_cons (se_lst (sa_cons (se_bin od_add (se_bin od_mulL (se_lst (sa_cons se_bl sa_nil)) se_int) (se_bin od_mulL (se_lst (sa_cons se_bl sa_nil)) se_int)) (sa_cons (se_bin od_add (se_lst (sa_cons se_bl (sa_cons se_bl (sa_cons se_bl sa_nil)))) (se_bin od_mulL (se_lst (sa_cons se_bl sa_nil)) se_int)) sa_nil))) sa_nil)) (len_cons (len_cons len_nil)))))
  (sb_one (ss_ret se_bl))
  sb_nil)
  (sb_cons (ss_setLc 11 [(("one" : Str), 13)] rfl sc_law.nd (si_seq (se_tup (sa_cons (se_var 3) (sa_cons (se_bin od_sub (se_bin od_shl se_int (se_var 2)) se_int) (sa_cons (se_bin od_shl se_int (se_var 2)) (sa_cons (se_neg se_int) (sa_cons se_bl (sa_cons se_non (sa_cons se_str sa_nil))))))))) (blkOk_by (N := N_law) (sc := defScope s_law) (by decide +kernel)) (fun _ _ _ _ _ => (sgw_name 13 sc_law.nd)) (fun _ _ _ _ _ => sts_nil) (fun _ _ _ _ _ => (se_fn h_is_word (hr.mono (by omega)) takes0 (sa_cons (se_var 13) (sa_cons (se_var 2) sa_nil)) (len_cons (len_cons len_nil)))))
  (sb_cons (ss_if (st_not (st_tru (se_fn h__law_same (hr.mono (by omega)) tk (sa_cons (se_var 11) (sa_cons (se_bin od_add (se_lst (sa_cons se_bl (sa_cons se_bl sa_nil))) (se_bin od_mulL (se_lst (sa_cons se_bl sa_nil)) se_int)) sa_nil)) (len_cons (len_cons len_nil)))))
  (sb_one (ss_ret se_bl))
  sb_nil)
  (sb_cons (ss_set 12 sc_law.nd (se_lst (sa_cons (se_var 5) (sa_cons (se_callTy cd_list G.b_list (sa_cons (se_var 5) sa_nil)) (sa_cons (se_bin od_add (se_var 5) (se_tup (sa_cons se_int sa_nil))) (sa_cons (se_slice (se_var 5) (so_some se_int) so_none) (sa_cons se_non (sa_cons (se_bin od_add (se_slice (se_var 5) so_none (so_some (se_neg se_int))) (se_tup (sa_cons se_int sa_nil))) (sa_cons (se_bin od_add (se_slice (se_var 5) so_none (so_some (se_neg se_int))) (se_tup (sa_cons se_bl sa_nil))) (sa_cons (se_bin od_add (se_slice (se_var 5) so_none (so_some (se_neg se_int))) (se_tup (sa_cons (se_neg se_int) sa_nil))) sa_nil))))))))))
  (sb_one (ss_ret (se_fn h__law_same (hr.mono (by omega)) tk (sa_cons (se_fresh (sl_lc [(("one" : Str), 13)] rfl sc_law.nd (si_seq (se_var 12)) (blkOk_by (N := N_law) (sc := defScope s_law) (by decide +kernel)) (fun _ _ _ _ _ => (sgw_name 13 sc_law.nd)) (fun _ _ _ _ _ => sts_nil) (fun _ _ _ _ _ => (se_fn h_is_bits (hr.mono (by omega)) takes0 (sa_cons (se_var 13) (sa_cons (se_var 2) sa_nil)) (len_cons (len_cons len_nil)))))) (sa_cons (se_bin od_add (se_lst (sa_cons se_bl sa_nil)) (se_bin od_mulL (se_lst (sa_cons se_bl sa_nil)) se_int)) sa_nil)) (len_cons (len_cons len_nil))))))))))))))))))))
end

end K01

namespace K01
open PySem PySem.Spec PyProof.Rows L2 Fx

theorem ref_is_count (ds : List D) (S : List Cell) (h : ds.length = 1) : RefR S (m_is_count ds S) (b_is_count (startD 1 ds) S) := by
  match ds, h with
  | [d], _ =>
    unfold m_is_count b_is_count
    cases d with
    | loc n =>
      cases h : cellL S n with
      | none =>
        simp only [tyD_loc, h]
        trivial
      | some xs =>
        simp only [tyD_loc, h]
        refine ref_pure0 (by simp) ?_
        simp [startD, isi_loc_int h, isCount, -cellL_ev]
    | int i =>
      simp only [tyD_int]
      refine ref_pure0 (by simp) ?_
      simp [startD, isCount, oGe]
    | _ =>
      refine ref_pure0 (by simp) ?_
      simp [startD, isCount]
theorem ref_is_width (ds : List D) (S : List Cell) (h : ds.length = 1) : RefR S (m_is_width ds S) (b_is_width (startD 1 ds) S) := by
  match ds, h with
  | [d], _ =>
    unfold m_is_width b_is_width
    simp only
    split
    · rename_i hd
      refine ref_pure0 (by simp) ?_
      cases d with
      | int i =>
        simp only [mRet_ev, mAndV_ev, mCall_ev, mCons_ev, mNil_ev, mVar_ev, startD]
        by_cases h0 : 0 ≤ i
        · by_cases h1 : 1 ≤ i
          · simp [m_is_count, isCount, isWidth, h0, h1]
          · simp [m_is_count, isCount, isWidth, h0, h1]
        · have h1 : ¬ 1 ≤ i := by omega
          simp [m_is_count, isCount, isWidth, h0, h1]
      | _ => simp_all [startD, m_is_count, isCount, isWidth]
    · trivial
theorem ref_is_word (ds : List D) (S : List Cell) (h : ds.length = 2) : RefR S (m_is_word ds S) (b_is_word (startD 2 ds) S) := by
  match ds, h with
  | [d, .int w], _ =>
    unfold m_is_word b_is_word
    simp only
    split
    · rename_i hd
      refine ref_pure0 (by simp) ?_
      have hc : cPow 1 w = true := by unfold cPow; simp; omega
      cases d with
      | int i =>
        by_cases h0 : 0 ≤ i
        · simp [startD, m_is_count, isCount, isWord, h0, oShl, hc]
        · simp [startD, m_is_count, isCount, isWord, h0]
      | _ => simp_all [startD, m_is_count, isCount, isWord]
    · trivial
  | [d, .non], _ => unfold m_is_word; trivial
  | [d, .bl _], _ => unfold m_is_word; trivial
  | [d, .str _], _ => unfold m_is_word; trivial
  | [d, .tup _], _ => unfold m_is_word; trivial
  | [d, .cst _], _ => unfold m_is_word; trivial
  | [d, .loc _], _ => unfold m_is_word; trivial
theorem ref_cut_word (ds : List D) (S : List Cell) (h : ds.length = 2) : RefR S (m_cut_word ds S) (b_cut_word (startD 2 ds) S) := by
  unfold m_cut_word
  split
  · rename_i v w
    split
    · rename_i hw
      refine ref_pure0 (by simp) ?_
      unfold b_cut_word
      have hc : cPow 1 w = true := by unfold cPow; simp; omega
      simp [startD, oShl, hc, oSub, oAnd, PySem.W.kbt_mask]
    · trivial
  · trivial
theorem ref_bits_of (ds : List D) (S : List Cell) (h : ds.length = 2) : RefR S (m_bits_of ds S) (b_bits_of (startD 3 ds) S) := by
  unfold m_bits_of
  split
  · rename_i v w
    split
    · rename_i hw
      refine ref_pure0 (by simp [belL_ints]) ?_
      unfold b_bits_of
      have hc : c62 w = true := by unfold c62; simp; omega
      obtain ⟨n, rfl⟩ := Int.eq_ofNat_of_zero_le hw.1
      have hn : n ≤ 1000 := by omega
      simp only [startD, mRet_ev, mF_ev, mLc_ev, mRng1_ev, mCons_ev, mNil_ev, mVar_ev, bind_ok, List.map_cons, List.map_nil, List.cons_append, List.nil_append, List.getElem?_cons_succ, List.getElem?_cons_zero, hc, if_true, Int.toNat_natCast]
      rw [lcGo_rng (fun k => .int (v / 2 ^ k % 2)) (line_le (by omega)) (fun k hk => ⟨_, rfl, rfl, ?_⟩)]
      · simp [bitL]
      · simp [wipeD, oShr, oAnd, bitAnd_m1]
    · trivial
  · trivial
theorem wordL_snoc : ∀ (l : List Int) (b : Int), wordL (l ++ [b]) = wordL l + b * 2 ^ l.length
  | [], b => by simp [wordL]
  | a :: l, b => by
    simp only [List.cons_append, wordL, wordL_snoc l b, List.length_cons, Int.pow_succ]
    generalize wordL l = x
    generalize (2 : Int) ^ l.length = y
    rw [Int.mul_add, ← Int.mul_assoc, ← Int.mul_assoc, Int.add_assoc, Int.mul_comm 2 b, Int.mul_comm (b * y) 2, Int.mul_comm b 2, Int.mul_assoc]
theorem intsD_eq : ∀ {l : List D} {ns : List Int}, intsD l = some ns → l = ns.map D.int
  | [], ns, h => by cases h; rfl
  | d :: l, ns, h => by
    cases d with
    | int i =>
      unfold intsD at h
      obtain ⟨ms, h1, rfl⟩ := Option.map_eq_some_iff.mp h
      rw [intsD_eq h1]; rfl
    | _ => cases h
theorem ref_word_of (ds : List D) (S : List Cell) (h : ds.length = 1) : RefR S (m_word_of ds S) (b_word_of (startD 3 ds) S) := by
  unfold m_word_of
  split
  · rename_i l
    split
    · rename_i bs hb
      split
      · rename_i hw
        obtain ⟨hl, hb01⟩ := hw
        have el := intsD_eq hb
        subst el
        rw [List.length_map] at hl
        refine ref_pure0 (by simp) ?_
        unfold b_word_of
        have hc : c62 (bs.length : Int) = true := by unfold c62; simp; omega
        simp only [startD, mSeq_ev, mSet_ev, mC_ev, thenS_ok, mFor_ev, mRng1_ev, mCons_ev, mB_ev, mNil_ev, mVar_ev, bind_ok, List.map_cons, List.map_nil, List.cons_append, List.nil_append, List.getElem?_cons_succ, List.getElem?_cons_zero, oLen_tup, List.length_map, hc, if_true, Int.toNat_natCast,
          show (3 : Nat) - ([D.tup (bs.map D.int)] : List D).length = 2 from rfl, List.replicate, List.set_cons_succ, List.set_cons_zero]
        obtain ⟨sd', S', e, k, rfl, rfl⟩ := forGo_rng (g := gN 2) (b := mAug 1 oAddI (mBin oShl (mBin oIx (mVar 0) (mVar 2)) (mVar 2))) (lo := 0) (n := bs.length) (fun i sd S' => ∃ k, sd = [some (.tup (bs.map D.int)), some (.int (wordL (bs.take i))), k] ∧ S' = S) (fun i sd S' hi ⟨k, e1, e2⟩ => by
          subst e1 e2
          refine ⟨_, _, _, _, rfl, ?_, some (.int i), rfl, rfl⟩
          have hb := hb01 bs[i] (List.getElem_mem hi)
          have hc : cPow bs[i] (i : Int) = true := by unfold cPow; simp; omega
          have e0 : wordL (bs.take (i + 1)) = wordL (bs.take i) + bs[i] * 2 ^ i := by
            rw [List.take_succ_eq_append_getElem hi, wordL_snoc, List.length_take, Nat.min_eq_left (by omega)]
          simp [oShl, atI_nat', hi, hc, e0, oAddI]) (sd := [some (.tup (bs.map D.int)), some (.int 0), none]) (S := S) ⟨none, by simp [wordL], rfl⟩
        rw [e]
        simp
      · trivial
    · trivial
  · trivial
theorem ref_is_bits (ds : List D) (S : List Cell) (h : ds.length = 2) : RefR S (m_is_bits ds S) (b_is_bits (startD 3 ds) S) := by
  match ds, h with
  | [d, .non], _ => unfold m_is_bits; split <;> first | trivial | simp_all
  | [d, .bl _], _ => unfold m_is_bits; split <;> first | trivial | simp_all
  | [d, .str _], _ => unfold m_is_bits; split <;> first | trivial | simp_all
  | [d, .tup _], _ => unfold m_is_bits; split <;> first | trivial | simp_all
  | [d, .cst _], _ => unfold m_is_bits; split <;> first | trivial | simp_all
  | [d, .loc _], _ => unfold m_is_bits; split <;> first | trivial | simp_all
  | [d, .int n], _ =>
    unfold b_is_bits
    cases d with
    | tup l =>
      unfold m_is_bits
      simp only
      split
      · rename_i hl
        obtain ⟨hl, hd⟩ := hl
        refine ref_pure0 (by simp) ?_
        have e := lcGo_map (it := ⟨l, none⟩) (g := gN 2) (t := mYes) (e := (mAndV (mCall m_is_count (mCons (mVar 2) mNil)) (mBin oLt (mVar 2) (mC (.int 2))))) (ws := [2]) (sd := [some (D.tup l), some (D.int n), none]) (S := S) (fun d => .bl (isBit d)) trivial l [] (fun x hx => ⟨[some (D.tup l), some (D.int n), some x], rfl, rfl, by
          have hx' := hd x hx
          cases x with
          | int i =>
            by_cases h0 : 0 ≤ i
            · simp [m_is_count, isCount, isBit, h0]
            · simp [m_is_count, isCount, isBit, h0]
          | _ => simp_all [m_is_count, isCount, isBit]⟩) (line_le (by simp; omega))
        have e2 : (l.map fun d => D.bl (isBit d)) = (l.map isBit).map D.bl := by simp
        cases hn : ((l.length : Int) == n) with
        | true =>
          have hn' : (l.length : Int) = n := by simpa using hn
          simp only [startD, mRet_ev, mAndV_ev, mIsi_ev, mVar_ev, mBin_ev, mB_ev, mF_ev, mLc_ev, mSeqI_ev, mCons_ev, mNil_ev, bind_ok, List.map_cons, List.map_nil, List.cons_append, List.nil_append, List.getElem?_cons_succ, List.getElem?_cons_zero, isi_tup_tuple, truD_bl, oLen_tup, oEq_int, hn,
            show (3 : Nat) - ([D.tup l, D.int n] : List D).length = 1 from rfl, List.replicate, e, e2, oAllF_ev, blsD_map, thenS_ok]
          simp [isBits, hn', Function.comp_def]
        | false =>
          have hn' : ¬ (l.length : Int) = n := by simpa using hn
          simp only [startD, mRet_ev, mAndV_ev, mIsi_ev, mVar_ev, mBin_ev, mB_ev, mCons_ev, mNil_ev, bind_ok, List.map_cons, List.map_nil, List.cons_append, List.nil_append, List.getElem?_cons_succ, List.getElem?_cons_zero, isi_tup_tuple, truD_bl, oLen_tup, oEq_int, hn, thenS_ok]
          simp [isBits, hn']
      · trivial
    | loc k =>
      unfold m_is_bits
      simp only
      split
      · rename_i hd
        cases h : cellL S k with
        | none => rw [tyD_loc, h] at hd; cases hd
        | some xs =>
          refine ref_pure0 (by simp) ?_
          simp [startD, isi_loc_tuple h, -cellL_ev]
      · trivial
    | _ =>
      refine ref_pure0 (by simp) ?_
      simp [startD]
theorem bitXor_01 (a b : Bool) : Builtin.bitXor (if a then 1 else 0) (if b then 1 else 0) = if xor a b then 1 else 0 := by
  cases a <;> cases b <;> decide
theorem ref_is_odd_word (ds : List D) (S : List Cell) (h : ds.length = 1) : RefR S (m_is_odd_word ds S) (b_is_odd_word (startD 2 ds) S) := by
  unfold m_is_odd_word
  split
  · rename_i w
    split
    · rename_i hw
      obtain ⟨n, rfl⟩ := Int.eq_ofNat_of_zero_le hw.1
      refine ref_pure0 (by simp) ?_
      unfold b_is_odd_word
      have key : ∀ (f : Nat) (sd : Sl) (S' : List Cell) (m : Nat), (∃ (q : Nat) (a : Bool), sd = [some (.int q), some (.int (if a then 1 else 0))] ∧ S = S' ∧ q < 2 ^ f ∧ xor a (oddN f q) = oddN 64 n) → f < m →
          ∃ a : Bool, whGo (mTst (mBin oGt (mVar 0) (mC (.int 0)))) (mPar 1 0 (mCons (mBin oXor (mVar 1) (mBin oAnd (mVar 0) (mC (.int 1)))) (mCons (mBin oShr (mVar 0) (mC (.int 1))) mNil))) m sd S' = .nx [some (.int 0), some (.int (if a then 1 else 0))] S ∧ a = oddN 64 n := by
        intro f
        induction f with
        | zero =>
          rintro sd S' m ⟨q, a, rfl, rfl, hq, ho⟩ hm
          have : q = 0 := by omega
          subst this
          obtain ⟨m, rfl⟩ : ∃ k, m = k + 1 := ⟨m - 1, by omega⟩
          refine ⟨a, ?_, by simpa [oddN] using ho⟩
          unfold whGo
          simp [oGt]
        | succ f ih =>
          rintro sd S' m ⟨q, a, rfl, rfl, hq, ho⟩ hm
          obtain ⟨m, rfl⟩ : ∃ k, m = k + 1 := ⟨m - 1, by omega⟩
          unfold whGo
          by_cases h0 : 0 < q
          · have e1 : ((q : Int) % 2) = if decide (q % 2 = 1) then 1 else 0 := by
              by_cases h1 : q % 2 = 1
              · simp [h1]; omega
              · simp [h1]; omega
            have e2 : ((q : Int) / 2) = ((q / 2 : Nat) : Int) := by omega
            have := ih [some (.int ((q / 2 : Nat) : Int)), some (.int (if xor a (decide (q % 2 = 1)) then 1 else 0))] S m ⟨q / 2, xor a (decide (q % 2 = 1)), rfl, rfl, by omega, by rw [← ho]; simp [oddN, Bool.xor_assoc]⟩ (by omega)
            have st1 : (mTst (mBin oGt (mVar 0) (mC (.int 0)))) [some (.int (q : Int)), some (.int (if a then 1 else 0))] S = .ok true S := by simp [oGt, h0]
            have st2 : (mPar 1 0 (mCons (mBin oXor (mVar 1) (mBin oAnd (mVar 0) (mC (.int 1)))) (mCons (mBin oShr (mVar 0) (mC (.int 1))) mNil))) [some (.int (q : Int)), some (.int (if a then 1 else 0))] S =
                .nx [some (.int ((q / 2 : Nat) : Int)), some (.int (if xor a (decide (q % 2 = 1)) then 1 else 0))] S := by
              simp only [mPar_ev, mCons_ev, mBin_ev, mVar_ev, mC_ev, mNil_ev, bind_ok, List.getElem?_cons_succ, List.getElem?_cons_zero, oXor, oAnd, oShr, oInt_ev, if_true, List.set_cons_zero, List.set_cons_succ, decide_eq_true (show (0 : Int) ≤ 1 by decide)]
              rw [bitAnd_m1, e1, bitXor_01, ← e2]
              rfl
            rw [st1]
            simp only [thenS_ok, if_true, st2]
            exact this
          · have : q = 0 := by omega
            subst this
            have z : ∀ f, oddN f 0 = false := fun f => by
              induction f with
              | zero => rfl
              | succ f ih => simp [oddN, ih]
            refine ⟨a, ?_, by rw [z] at ho; simpa using ho⟩
            simp [oGt]
      obtain ⟨a, e, ea⟩ := key 64 [some (.int n), some (.int 0)] S whN ⟨n, false, by simp, rfl, by omega, by simp⟩ (by unfold whN; decide)
      simp only [startD, mSeq_ev, mSet_ev, mC_ev, thenS_ok, mWhile_ev, List.map_cons, List.map_nil, List.cons_append, List.nil_append, show (2 : Nat) - ([D.int (n : Int)] : List D).length = 1 from rfl, List.replicate, List.set_cons_succ, List.set_cons_zero]
      rw [e]
      subst ea
      simp only [mRet_ev, mBin_ev, mVar_ev, mC_ev, bind_ok, List.getElem?_cons_succ, List.getElem?_cons_zero, oEq_int, thenS_ok, Int.toNat_natCast]
      generalize oddN 64 n = o
      cases o <;> rfl
    · trivial
  · trivial
end K01

namespace K01
open PySem PySem.Spec PyProof.Rows L2 Fx

theorem cutG_nat {α : Type} (xs : List α) (h w : Nat) : cutG xs (some (h : Int)) (some ((h : Int) + (w : Int))) = (xs.drop h).take w := by
  have e : ((h : Int) + (w : Int)) = ((h + w : Nat) : Int) := by omega
  unfold cutG
  rw [e, HT.sIx_nat, HT.sIx_nat]
  by_cases hh : h ≤ xs.length
  · rw [Nat.min_eq_left hh]
    rw [List.take_eq_take_iff, List.length_drop]
    omega
  · rw [List.drop_of_length_le (by omega), List.drop_of_length_le (by omega)]
    simp
theorem splitL_snoc : ∀ (l : List Nat) (b : List Int) (w : Nat), splitL b (l ++ [w]) = splitL b l ++ [wordL ((b.drop l.sum).take w)]
  | [], b, w => by simp [splitL]
  | a :: l, b, w => by simp [splitL, splitL_snoc l, List.drop_drop]
theorem set_app {S : List Cell} {c c' : Cell} : (S ++ [c]).set S.length c' = S ++ [c'] := by simp
theorem get_app {S : List Cell} {c : Cell} : (S ++ [c])[S.length]? = some c := by simp
theorem sum_le (l : List Nat) (h : ∀ x ∈ l, x ≤ 16) : l.sum ≤ 16 * l.length := by
  induction l with
  | nil => simp
  | cons a l ih =>
    have := ih fun x hx => h x (by simp [hx])
    have := h a (by simp)
    simp
    omega
theorem ref_split_words (ds : List D) (S : List Cell) (h : ds.length = 2) : RefR S (m_split_words ds S) (b_split_words (startD 5 ds) S) := by
  unfold m_split_words
  split
  · rename_i bs ws
    split
    · rename_i b w hb hw
      split
      · rename_i hc
        obtain ⟨hb01, hw16, hbl, hwl⟩ := hc
        have eb := intsD_eq hb
        have ew := intsD_eq hw
        subst eb ew
        have hlen : ∀ i, (splitL b ((w.take i).map Int.toNat)).length ≤ 100 := fun i => by
          have : ∀ (l : List Nat) (b : List Int), (splitL b l).length = l.length := fun l => by
            induction l with
            | nil => intro b; rfl
            | cons a l ih => intro b; simp [splitL, ih]
          rw [this, List.length_map, List.length_take]
          omega
        refine ref_pure (junk := [.lst ((splitL b (w.map Int.toNat)).map D.int)]) (by simp [belL_ints]) ?_
        unfold b_split_words
        obtain ⟨sd', S', e, kk, rfl, rfl⟩ := forGo_ix (g := gN 4) (b := (mSeq (mExpr (mAppend (mVar 2) (mCall m_word_of (mCons (mSlice (mVar 0) (mPart (mVar 3)) (mPart (mBin oAdd (mVar 3) (mVar 4)))) mNil)))) (mAug 3 oAddI (mVar 4)))) (xs := w.map D.int) (gd := none)
          (fun i sd S' => ∃ k, sd = [some (.tup (b.map D.int)), some (.tup (w.map D.int)), some (.loc S.length), some (.int (((w.take i).map Int.toNat).sum : Nat)), k] ∧ S' = S ++ [.lst ((splitL b ((w.take i).map Int.toNat)).map D.int)]) (fun _ _ _ _ => trivial)
          (fun i x sd S' hx ⟨k, e1, e2⟩ => by
            subst e1 e2
            rw [List.getElem?_map] at hx
            obtain ⟨wi, hwi, rfl⟩ := Option.map_eq_some_iff.mp hx
            obtain ⟨hi, rfl⟩ := List.getElem?_eq_some_iff.mp hwi
            have hwb := hw16 w[i] (List.getElem_mem hi)
            obtain ⟨q, hq⟩ := Int.eq_ofNat_of_zero_le (show 0 ≤ w[i] by omega)
            have hq' : w[i].toNat = q := by omega
            refine ⟨_, _, _, _, rfl, ?_, some (.int w[i]), rfl, rfl⟩
            have e0 : (w.take (i + 1)).map Int.toNat = (w.take i).map Int.toNat ++ [q] := by
              rw [List.take_succ_eq_append_getElem hi, List.map_append, List.map_cons, List.map_nil, hq']
            have ec := cutG_nat (b.map D.int) ((w.take i).map Int.toNat).sum q
            rw [← List.map_drop, ← List.map_take] at ec
            have em : m_word_of [.tup (((b.drop ((w.take i).map Int.toNat).sum).take q).map D.int)] (S ++ [.lst ((splitL b ((w.take i).map Int.toNat)).map D.int)]) = .ok (.int (wordL ((b.drop ((w.take i).map Int.toNat).sum).take q))) (S ++ [.lst ((splitL b ((w.take i).map Int.toNat)).map D.int)]) := by
              unfold m_word_of
              simp only [intsD_map]
              rw [if_pos]
              refine ⟨?_, fun x hx => hb01 x (List.mem_of_mem_drop (List.mem_of_mem_take hx))⟩
              simp
              omega
            have hz : ((splitL b ((w.take i).map Int.toNat)).map D.int).length < sizeLine := by
              rw [List.length_map, sizeLine_eq]
              have := hlen i
              omega
            simp only [mSeq_ev, mExpr_ev, mAppend_ev, mVar_ev, mCall_ev, mCons_ev, mNil_ev, mSlice_ev, mPart_ev, mBin_ev, mAug_ev, bind_ok, thenS_ok, List.getElem?_cons_succ, List.getElem?_cons_zero, List.set_cons_succ, List.set_cons_zero, mlst_ev, get_app, intD_int, oAdd_int, oSl_tup, hq, ec, em, hz, if_true, set_app, oInt_ev]
            rw [e0, splitL_snoc, List.sum_append]
            simp) (sd := [some (.tup (b.map D.int)), some (.tup (w.map D.int)), some (.loc S.length), some (.int 0), none]) (S := S ++ [.lst []]) ⟨none, by simp, by simp [splitL]⟩
        rw [List.length_map, List.take_length] at e
        simp only [mSeq_ev, mPar_ev, mCons_ev, mLst_ev, mNil_ev, mC_ev, bind_ok, startD, List.map_cons, List.map_nil, List.cons_append, List.nil_append, show (5 : Nat) - ([D.tup (b.map D.int), D.tup (w.map D.int)] : List D).length = 3 from rfl, List.replicate, List.set_cons_succ, List.set_cons_zero,
          List.length_nil, Nat.zero_le, if_true, mFor_ev, mSeqI_ev, mVar_ev, List.getElem?_cons_succ, List.getElem?_cons_zero, thenS_ok, e, mRet_ev, mB_ev, oTupC_seq, seqD_loc, cellL_ev, get_app]
      · trivial
    · trivial
  · trivial
theorem joinL_snoc : ∀ (v : List Int) (w : List Nat) (a : Int) (n : Nat), v.length = w.length → joinL (v ++ [a]) (w ++ [n]) = joinL v w ++ bitL a n
  | [], [], a, n, _ => by simp [joinL]
  | x :: v, y :: w, a, n, h => by simp [joinL, joinL_snoc v w a n (by simpa using h)]
  | [], _ :: _, _, _, h => by simp at h
  | _ :: _, [], _, _, h => by simp at h
theorem joinL_length : ∀ (v : List Int) (w : List Nat), (∀ x ∈ w, x ≤ 16) → (joinL v w).length ≤ 16 * v.length
  | [], w, _ => by simp [joinL]
  | x :: v, [], _ => by simp [joinL]
  | x :: v, y :: w, h => by
    have := joinL_length v w fun z hz => h z (by simp [hz])
    have := h y (by simp)
    simp [joinL, bitL]
    omega
theorem ref_joined_bits (ds : List D) (S : List Cell) (h : ds.length = 2) : RefR S (m_joined_bits ds S) (b_joined_bits (startD 4 ds) S) := by
  unfold m_joined_bits
  split
  · rename_i bs ws
    split
    · rename_i v w hb hw
      split
      · rename_i hc
        obtain ⟨hl, hw16, hvl⟩ := hc
        have eb := intsD_eq hb
        have ew := intsD_eq hw
        subst eb ew
        refine ref_pure0 (by simp [belL_ints]) ?_
        unfold b_joined_bits
        have hc62 : c62 (v.length : Int) = true := by unfold c62; simp; omega
        obtain ⟨sd', S', e, kk, rfl, rfl⟩ := forGo_rng (g := gN 3) (b := (mSet 2 (mBin oAdd (mVar 2) (mCall m_bits_of (mCons (mBin oIx (mVar 0) (mVar 3)) (mCons (mBin oIx (mVar 1) (mVar 3)) mNil)))))) (lo := 0) (n := v.length)
          (fun i sd S' => ∃ k, sd = [some (.tup (v.map D.int)), some (.tup (w.map D.int)), some (.tup ((joinL (v.take i) ((w.take i).map Int.toNat)).map D.int)), k] ∧ S = S')
          (fun i sd S' hi ⟨k, e1, e2⟩ => by
            subst e1 e2
            have hi' : i < w.length := by omega
            have hwb := hw16 w[i] (List.getElem_mem hi')
            obtain ⟨q, hq⟩ := Int.eq_ofNat_of_zero_le (show 0 ≤ w[i] by omega)
            have hq' : w[i].toNat = q := by omega
            refine ⟨_, _, _, _, rfl, ?_, some (.int (0 + (i : Nat))), rfl, rfl⟩
            have e0 : joinL (v.take (i + 1)) ((w.take (i + 1)).map Int.toNat) = joinL (v.take i) ((w.take i).map Int.toNat) ++ bitL v[i] q := by
              rw [List.take_succ_eq_append_getElem hi, List.take_succ_eq_append_getElem hi', List.map_append, List.map_cons, List.map_nil, hq']
              exact joinL_snoc _ _ _ _ (by simp; omega)
            have em : m_bits_of [.int v[i], .int w[i]] S = .ok (.tup ((bitL v[i] q).map D.int)) S := by
              unfold m_bits_of
              simp only
              rw [if_pos (by omega), hq']
            have hz : (joinL (v.take i) ((w.take i).map Int.toNat)).length + (bitL v[i] q).length ≤ sizeLine := by
              have := joinL_length (v.take i) ((w.take i).map Int.toNat) (fun x hx => by
                obtain ⟨y, hy, rfl⟩ := List.mem_map.mp hx
                have := hw16 y (List.mem_of_mem_take hy)
                omega)
              rw [List.length_take] at this
              rw [sizeLine_eq, show (bitL v[i] q).length = q by simp [bitL]]
              omega
            have g1 : (v.map D.int)[i]? = some (.int v[i]) := by simp [hi]
            have g2 : (w.map D.int)[i]? = some (.int w[i]) := by simp [hi']
            simp only [mSet_ev, mBin_ev, mVar_ev, mCall_ev, mCons_ev, mNil_ev, bind_ok, thenS_ok, List.getElem?_cons_succ, List.getElem?_cons_zero, List.set_cons_succ, List.set_cons_zero, oIx_tup, Int.zero_add, atI_nat', g1, g2, optR_some, em, oAdd_tup, List.length_map, hz, if_true, e0, List.map_append]) (sd := [some (.tup (v.map D.int)), some (.tup (w.map D.int)), some (.tup []), none]) (S := S) ⟨none, by simp [joinL], rfl⟩
        have e9 : w.take v.length = w := by rw [hl, List.take_length]
        rw [List.take_length, e9] at e
        have : (0 : Nat) ≤ sizeLine := Nat.zero_le _
        simp only [mSeq_ev, mSet_ev, mTup_ev, mNil_ev, bind_ok, startD, List.map_cons, List.map_nil, List.cons_append, List.nil_append, show (4 : Nat) - ([D.tup (v.map D.int), D.tup (w.map D.int)] : List D).length = 2 from rfl, List.replicate, List.set_cons_succ, List.set_cons_zero,
          List.length_nil, this, if_true, mFor_ev, mRng1_ev, mCons_ev, mB_ev, mVar_ev, List.getElem?_cons_succ, List.getElem?_cons_zero, thenS_ok, oLen_tup, List.length_map, hc62, Int.toNat_natCast, e, mRet_ev]
      · trivial
    · trivial
  · trivial
end K01

namespace K01
open PySem PySem.Spec PyProof.Rows L2 Fx

theorem tapeAt_some {S : List Cell} {n k : Nat} {ns : List Int} {p : Nat} {r s : Int} (h : tapeAt S n = some (k, ns, p, r, s)) :
    S[n]? = some (.lst [.loc k, .int p, .int r, .int s]) ∧ S[k]? = some (.lst (ns.map D.int)) ∧ k ≠ n ∧ 0 ≤ r ∧ 0 ≤ s ∧ s < 2147483647 := by
  unfold tapeAt at h
  split at h
  · rename_i k' p' r' s' e1
    split at h
    · rename_i xs e2
      split at h
      · rename_i ns' e3
        split at h
        · rename_i hc
          cases h
          obtain ⟨h1, h2, h3, h4, h5⟩ := hc
          rw [intsD_eq e3] at e2
          refine ⟨?_, e2, h1, h3, h4, h5⟩
          rw [e1, Int.toNat_of_nonneg h2]
        · cases h
      · cases h
    · cases h
  · cases h
theorem ref__law_next (ds : List D) (S : List Cell) (h : ds.length = 2) : RefR S (m__law_next ds S) (b__law_next (startD 4 ds) S) := by
  unfold m__law_next
  split
  · rename_i n many
    split
    · rename_i k ns p r s ht
      split
      · rename_i hm
        obtain ⟨hS, hK, hkn, hr0, hs0, hs1⟩ := tapeAt_some ht
        have hl := (List.getElem?_eq_some_iff.mp hS).1
        have hlk := (List.getElem?_eq_some_iff.mp hK).1
        have hkn' : n ≠ k := Ne.symm hkn
        refine ⟨by simp, by simp, fun c hc => ?_, [], .inl ?_⟩
        · rcases List.mem_or_eq_of_mem_set hc with hc | rfl
          · exact .inl hc
          · exact .inr (by simp [Cell.bel, hlk])
        · rw [List.append_nil]
          unfold b__law_next
          have hcd : cDiv 0 many = true := by unfold cDiv; simp; omega
          have hcd' : ∀ i, cDiv i many = true := fun i => hcd
          have h5 : ∀ i, cDiv i 5 = true := fun i => by unfold cDiv; decide
          have hmp : decide (0 < many) = true := by simp; omega
          have hpw : cPow 10 18 = true := by decide
          have e18 : (10 : Int) ^ (18 : Int).toNat = 1000000000000000000 := by decide
          have hst : startD 4 [D.loc n, .int many] = [some (.loc n), some (.int many), none, none] := rfl
          by_cases hr : r = 0
          · subst hr
            by_cases hp : p < ns.length
            · have hp' : decide ((p : Int) < (ns.length : Int)) = true := by simp; exact hp
              have eg : (ns.map D.int)[p]? = some (.int ns[p]) := by simp [hp]
              have eabs : (if ns[p] < 0 then -ns[p] else ns[p]) = (ns[p].natAbs : Int) := by split <;> omega
              generalize hcell : (ns[p].natAbs : Int) = cell at eabs
              have hc0 : 0 ≤ cell := by omega
              by_cases hc : cell < 1000000000000000000
              · have hcb : decide (cell < 1000000000000000000) = true := by simp [hc]
                have m1 : cMul s 69621 = true := by unfold cMul c64; simp
                have m2 : cMul cell 40692 = true := by unfold cMul c64; simp
                have m3 : ∀ i, cMul i 48271 = true := fun i => by unfold cMul c64; simp
                have en : nextV ns p 0 s many = ((s * 69621 + cell * 40692 + 17) % 2147483647 / 5 * 48271 % 2147483647 % many, p + 1, 0, (s * 69621 + cell * 40692 + 17) % 2147483647) := by
                  simp [nextV, cellV, hp, hcell, hc]
                rw [en, hst]
                simp only [mSeq_ev, mIf_ev, mSet_ev, mTst_ev, mBin_ev, mVar_ev, mC_ev, mB_ev, mCons_ev, mNil_ev, mAsg_ev, gSubL_ev, mRet_ev, mNext_ev, bind_ok, thenS_ok, List.getElem?_cons_succ, List.getElem?_cons_zero, List.set_cons_succ, List.set_cons_zero, oIx_loc, cellL_ev, mlst_ev, hS, hK,
                  Option.bind_some, atI_zero, atI_one, atI_lit, optR_some, oEq_int, blD_bl, beq_self_eq_true, if_true, oLen_loc, List.length_map, oLt_int, hp', atI_nat', eg, oIntC_int, oAbs_int, eabs, oAdd_int, List.length_cons, List.length_nil, ixN_one, List.getElem?_set_self hl, List.getElem?_set_ne hkn', List.set_set,
                  oPow, oInt_ev, hpw, e18, hcb, oMulL_int, m1, m2, m3, oMod, oDiv, hmp, h5, Nat.zero_add, show (1 : Nat) < 4 from by decide, List.length_set]
                simp [ixN, List.getElem?_set_self hl, List.set_set, hl, hmp, h5, m3]
              · have hcb : decide (cell < 1000000000000000000) = false := by simp [hc]
                have en : nextV ns p 0 s many = (cell % many, p + 1, cell / many, s) := by
                  simp [nextV, cellV, hp, hcell, hc]
                rw [en, hst]
                simp only [mSeq_ev, mIf_ev, mSet_ev, mTst_ev, mBin_ev, mVar_ev, mC_ev, mB_ev, mCons_ev, mNil_ev, mAsg_ev, gSubL_ev, mRet_ev, mNext_ev, bind_ok, thenS_ok, List.getElem?_cons_succ, List.getElem?_cons_zero, List.set_cons_succ, List.set_cons_zero, oIx_loc, cellL_ev, mlst_ev, hS, hK,
                  Option.bind_some, atI_zero, atI_one, atI_lit, optR_some, oEq_int, blD_bl, beq_self_eq_true, if_true, oLen_loc, List.length_map, oLt_int, hp', atI_nat', eg, oIntC_int, oAbs_int, eabs, oAdd_int, List.length_cons, List.length_nil, ixN_one, List.getElem?_set_self hl, List.getElem?_set_ne hkn', List.set_set,
                  oPow, oInt_ev, hpw, e18, hcb, Bool.false_eq_true, if_false, oMod, oDiv, hmp, hcd', Nat.zero_add, show (1 : Nat) < 4 from by decide]
                simp [ixN, List.getElem?_set_self hl, List.set_set, hl, hmp, hcd']
            · have hp' : decide ((p : Int) < (ns.length : Int)) = false := by simp; omega
              have eg : ns[p]? = none := List.getElem?_eq_none (by omega)
              have m1 : cMul s 69621 = true := by unfold cMul c64; simp
              have m2 : cMul 0 40692 = true := by unfold cMul c64; simp
              have m3 : ∀ i, cMul i 48271 = true := fun i => by unfold cMul c64; simp
              have en : nextV ns p 0 s many = ((s * 69621 + 0 * 40692 + 17) % 2147483647 / 5 * 48271 % 2147483647 % many, p, 0, (s * 69621 + 0 * 40692 + 17) % 2147483647) := by
                simp [nextV, cellV, hp, eg]
              rw [en, hst]
              simp only [mSeq_ev, mIf_ev, mSet_ev, mTst_ev, mBin_ev, mVar_ev, mC_ev, mB_ev, mCons_ev, mNil_ev, mAsg_ev, gSubL_ev, mRet_ev, mNext_ev, bind_ok, thenS_ok, List.getElem?_cons_succ, List.getElem?_cons_zero, List.set_cons_succ, List.set_cons_zero, oIx_loc, cellL_ev, mlst_ev, hS, hK,
                Option.bind_some, atI_zero, atI_one, atI_lit, optR_some, oEq_int, blD_bl, beq_self_eq_true, if_true, oLen_loc, List.length_map, oLt_int, hp', Bool.false_eq_true, if_false, oIntC_int, oAbs_int, oAdd_int, List.length_cons, List.length_nil, ixN_one, List.getElem?_set_self hl, List.getElem?_set_ne hkn', List.set_set,
                oPow, oInt_ev, hpw, e18, show decide ((0 : Int) < 1000000000000000000) = true from by decide, oMulL_int, m1, m2, m3, oMod, oDiv, hmp, h5, Nat.zero_add]
              simp [ixN, List.getElem?_set_self hl, List.set_set, hS, hmp, h5, m3]
          · have hrb : (r == 0) = false := by simp [hr]
            have en : nextV ns p r s many = (r % many, p, r / many, s) := by
              simp [nextV, hr]
            rw [en, hst]
            simp only [mSeq_ev, mIf_ev, mSet_ev, mTst_ev, mBin_ev, mVar_ev, mC_ev, mB_ev, mCons_ev, mNil_ev, mAsg_ev, gSubL_ev, mRet_ev, mNext_ev, bind_ok, thenS_ok, List.getElem?_cons_succ, List.getElem?_cons_zero, List.set_cons_succ, List.set_cons_zero, oIx_loc, cellL_ev, mlst_ev, hS, hK,
              Option.bind_some, atI_zero, atI_one, atI_lit, optR_some, oEq_int, blD_bl, hrb, Bool.false_eq_true, if_false, oIntC_int, oDiv, oMod, oInt_ev, hcd', hmp, if_true]
            simp [ixN, List.getElem?_set_self hl, List.set_set, hl, hmp, hcd']
      · trivial
    · trivial
  · trivial
end K01

namespace K01
open PySem PySem.Spec PyProof.Rows L2 Fx

theorem sameL_get {R : D → D → Prop} : ∀ {xs ys : List D}, sameL R xs ys → xs.length = ys.length ∧ ∀ (k : Nat) (h : k < xs.length) (h' : k < ys.length), R xs[k] ys[k]
  | [], [], _ => ⟨rfl, fun k h => by simp at h⟩
  | x :: xs, y :: ys, h => by
    obtain ⟨h1, h2⟩ := sameL_get h.2
    refine ⟨by simp [h1], fun k hk hk' => ?_⟩
    cases k with
    | zero => exact h.1
    | succ k => exact h2 k (by simpa using hk) (by simpa using hk')
  | [], _ :: _, h => h.elim
  | _ :: _, [], h => h.elim
theorem lc_none {g : MG} {t : MT} {e : ME} {ws : List Nat} {sd : Sl} {S : List Cell} {n : Nat} (hn : n ≤ sizeLine) (h : ∀ k, k < n → ∃ sd1, g (.int (0 + (k : Nat))) (wipeD sd ws) S = .ok sd1 S ∧ t sd1 S = .ok false S) :
    lcGo ⟨rngD 0 n, none⟩ ws g t e sd (rngD 0 n) [] S = .ok [] S := by
  have := lcGo_filter (it := ⟨rngD 0 n, none⟩) (ws := ws) (g := g) (t := t) (e := e) (sd := sd) (S := S) (fun _ => false) (fun d => d) trivial (rngD 0 n) [] (fun x hx => by
    obtain ⟨k, hk, rfl⟩ := List.mem_map.mp hx
    obtain ⟨sd1, a, b⟩ := h k (List.mem_range.mp hk)
    exact ⟨sd1, a, b, fun z => by cases z⟩) (by rw [rngD_length]; simpa using hn)
  rw [this]
  simp
theorem eq_empty (S : List Cell) : oEq (.loc S.length) (.loc (S.length + 1)) (S ++ [.lst []] ++ [.lst []]) = .ok (.bl true) (S ++ [.lst []] ++ [.lst []]) := by
  have e1 : (S ++ [Cell.lst []] ++ [Cell.lst []])[S.length]? = some (.lst []) := by simp
  have e2 : (S ++ [Cell.lst []] ++ [Cell.lst []])[S.length + 1]? = some (.lst []) := by
    rw [List.getElem?_append_right (by simp)]
    simp
  unfold oEq eqD
  simp only [pyD_loc, cellL_ev, e1, e2, Option.bind_some, List.mapM_nil]
  rfl
theorem m_same_ok {n : Nat} {S : List Cell} {a b : D} (h : SameP S n a b) : m_same n [a, b] S = .ok (.bl true) S := by
  unfold m_same
  rw [if_pos ⟨a, b, rfl, h⟩]
theorem str_all {x : List Nat} (h : ∀ c ∈ x, c < 0x110000) : x.all (fun c => decide (c < 0x110000)) = true := by
  rw [List.all_eq_true]
  intro c hc
  simpa using h c hc
theorem oEq_str {S : List Cell} {x y : List Nat} (h : ∀ c ∈ x, c < 0x110000) (h2 : ∀ c ∈ y, c < 0x110000) : oEq (.str x) (.str y) S = .ok (.bl (x == y)) S := by
  unfold oEq eqD
  simp only [pyD_str]
  rw [str_all h, str_all h2]
  simp only [if_true, Option.bind_some, Option.map_some]
  show Res.ok (D.bl ((⟨x.toArray⟩ : Str) == (⟨y.toArray⟩ : Str))) S = _
  rw [str_beq]
theorem ref__law_same (n : Nat) (ds : List D) (S : List Cell) (h : ds.length = 2) : RefR S (m_same (n + 1) ds S) (b__law_same (m_same n) (startD 3 ds) S) := by
  unfold m_same
  split
  · rename_i hh
    obtain ⟨a, b, rfl, hs⟩ := hh
    have hm : ∀ {x y}, SameP S n x y → m_same n [x, y] S = .ok (.bl true) S := fun h => m_same_ok h
    have hst : startD 3 [a, b] = [some a, some b, none] := rfl
    have fold : (open Classical in (fun ds S => if ∃ a b, ds = [a, b] ∧ SameP S n a b then Res.ok (D.bl true) S else Res.stk) : List D → List Cell → Res D) = m_same n := rfl
    have c62n : ∀ k : Nat, k ≤ 1000 → c62 (k : Int) = true := fun k hk => by unfold c62; simp; omega
    unfold b__law_same
    cases b with
    | non =>
      cases a with
      | non => exact ref_pure0 (by simp) (by simp [startD])
      | _ => exact hs.elim
    | bl x =>
      cases a with
      | bl y =>
        have : y = x := hs
        subst this
        exact ref_pure0 (by simp) (by simp [startD])
      | _ => exact hs.elim
    | int x =>
      cases a with
      | int y =>
        have : y = x := hs
        subst this
        exact ref_pure0 (by simp) (by simp [startD])
      | _ => exact hs.elim
    | str x =>
      cases a with
      | str y =>
        obtain ⟨rfl, hx⟩ : y = x ∧ ∀ c ∈ y, c < 0x110000 := hs
        exact ref_pure0 (by simp) (by simp [startD, oEq_str hx hx])
      | _ => exact hs.elim
    | cst _ => cases a <;> exact hs.elim
    | tup ys =>
      cases a with
      | tup xs =>
        obtain ⟨hl, hs⟩ : xs.length ≤ 1000 ∧ sameL (SameP S n) xs ys := hs
        obtain ⟨hl2, hk⟩ := sameL_get hs
        refine ref_pure (junk := [.lst [], .lst []]) (by simp) ?_
        have e := lc_none (g := gN 2) (t := (mNot (mTru (mCall (m_same n) (mCons (mBin oIx (mVar 0) (mVar 2)) (mCons (mBin oIx (mVar 1) (mVar 2)) mNil)))))) (e := mC (.int 1)) (ws := [2]) (sd := [some (.tup xs), some (.tup ys), none]) (S := S) (n := ys.length) (line_le (by omega)) (fun k hk' => ⟨_, rfl, by
          have h1 : k < xs.length := by omega
          have e1 : xs[k]? = some xs[k] := by simp [h1]
          have e2 : ys[k]? = some ys[k] := by simp [hk']
          simp only [mNot_ev, mTru_ev, mCall_ev, mCons_ev, mBin_ev, mVar_ev, mNil_ev, wipeD, List.set_cons_succ, List.set_cons_zero, List.getElem?_cons_succ, List.getElem?_cons_zero, bind_ok, oIx_tup, Int.zero_add, atI_nat', e1, e2, optR_some, hm (hk k h1 hk'), truD_bl]
          rfl⟩)
        have e62 := c62n ys.length (by omega)
        simp only [hst, mSeq_ev, mIf_ev, mTst_ev, mBin_ev, mVar_ev, mC_ev, mTru_ev, mIsi_ev, mOr_ev, mAnd_ev, mNot_ev, mRet_ev, mNext_ev, mAndV_ev, mB_ev, mCons_ev, mNil_ev, mFresh_ev, mLc_ev, mRng1_ev, mLst_ev, bind_ok, thenS_ok, List.getElem?_cons_succ, List.getElem?_cons_zero, oIsN_non, isNonD_tup, blD_bl, optR_some, Bool.false_eq_true, if_false, isi_tup_bool, isi_tup_int, isi_tup_str, isi_tup_list, isi_tup_tuple, truD_bl, Bool.not_true, Bool.not_false,
          oLen_tup, hl2, oEq_int, beq_self_eq_true, e62, if_true, Int.toNat_natCast, fold, e, List.length_nil, Nat.zero_le, List.length_append, List.length_cons, Nat.zero_add, eq_empty]
        simp
      | _ => exact hs.elim
    | loc j =>
      cases a with
      | loc i =>
        obtain ⟨xs, ys, hi, hj, hl, hs⟩ : ∃ xs ys, cellL S i = some xs ∧ cellL S j = some ys ∧ xs.length ≤ 1000 ∧ sameL (SameP S n) xs ys := hs
        obtain ⟨hl2, hk⟩ := sameL_get hs
        refine ref_pure (junk := [.lst [], .lst []]) (by simp) ?_
        have e := lc_none (g := gN 2) (t := (mNot (mTru (mCall (m_same n) (mCons (mBin oIx (mVar 0) (mVar 2)) (mCons (mBin oIx (mVar 1) (mVar 2)) mNil)))))) (e := mC (.int 1)) (ws := [2]) (sd := [some (.loc i), some (.loc j), none]) (S := S) (n := ys.length) (line_le (by omega)) (fun k hk' => ⟨_, rfl, by
          have h1 : k < xs.length := by omega
          have e1 : xs[k]? = some xs[k] := by simp [h1]
          have e2 : ys[k]? = some ys[k] := by simp [hk']
          simp only [mNot_ev, mTru_ev, mCall_ev, mCons_ev, mBin_ev, mVar_ev, mNil_ev, wipeD, List.set_cons_succ, List.set_cons_zero, List.getElem?_cons_succ, List.getElem?_cons_zero, bind_ok, oIx_loc, hi, hj, Option.bind_some, Int.zero_add, atI_nat', e1, e2, optR_some, hm (hk k h1 hk'), truD_bl]
          rfl⟩)
        have e62 := c62n ys.length (by omega)
        simp only [hst, mSeq_ev, mIf_ev, mTst_ev, mBin_ev, mVar_ev, mC_ev, mTru_ev, mIsi_ev, mOr_ev, mAnd_ev, mNot_ev, mRet_ev, mNext_ev, mAndV_ev, mB_ev, mCons_ev, mNil_ev, mFresh_ev, mLc_ev, mRng1_ev, mLst_ev, bind_ok, thenS_ok, List.getElem?_cons_succ, List.getElem?_cons_zero, oIsN_non, isNonD_loc, blD_bl, optR_some, Bool.false_eq_true, if_false, isi_loc_bool hj, isi_loc_int hj, isi_loc_str hj, isi_loc_list hj, isi_loc_tuple hj, isi_loc_list hi, truD_bl, Bool.not_true, Bool.not_false,
          oLen_loc, hi, hj, hl2, oEq_int, beq_self_eq_true, e62, if_true, Int.toNat_natCast, fold, e, List.length_nil, Nat.zero_le, List.length_append, List.length_cons, Nat.zero_add, eq_empty]
        simp
      | _ => exact hs.elim
  · trivial
end K01

namespace K01
open PySem PySem.Spec PyProof.Rows L2 Fx

theorem seq_nx {a b : MS} {sd sd1 : Sl} {S S1 : List Cell} {r : ResS} (h1 : a sd S = .nx sd1 S1) (h2 : b sd1 S1 = r) : mSeq a b sd S = r := by
  rw [mSeq_ev, h1]
  exact h2
/-! ### the tape -/
def tpc (ns : List Int) (st : Nat × Int × Int) (rest : List Cell) : List Cell := .lst (ns.map D.int) :: .lst [.loc 0, .int st.1, .int st.2.1, .int st.2.2] :: rest
def okst (st : Nat × Int × Int) : Prop := 0 ≤ st.2.1 ∧ 0 ≤ st.2.2 ∧ st.2.2 < 2147483647
theorem nextV_ok {ns : List Int} {p : Nat} {r s many : Int} (hm : 0 < many) (h : 0 ≤ r ∧ 0 ≤ s ∧ s < 2147483647) : 0 ≤ (nextV ns p r s many).1 ∧ (nextV ns p r s many).1 < many ∧ okst (nextV ns p r s many).2 := by
  obtain ⟨h1, h2, h3⟩ := h
  have q1 : ∀ x : Int, 0 ≤ x % many ∧ x % many < many := fun x => ⟨Int.emod_nonneg _ (by omega), Int.emod_lt_of_pos _ hm⟩
  have hc : 0 ≤ cellV ns p := by
    unfold cellV
    split <;> omega
  unfold nextV
  simp only
  generalize cellV ns p = cell at hc
  by_cases hr : r = 0
  · rw [if_pos hr]
    by_cases hl : cell < 10 ^ 18
    · rw [if_pos hl]
      exact ⟨(q1 _).1, (q1 _).2, h1, Int.emod_nonneg _ (by decide), Int.emod_lt_of_pos _ (by decide)⟩
    · rw [if_neg hl]
      exact ⟨(q1 _).1, (q1 _).2, Int.ediv_nonneg hc (by omega), h2, h3⟩
  · rw [if_neg hr]
    exact ⟨(q1 _).1, (q1 _).2, Int.ediv_nonneg h1 (by omega), h2, h3⟩
theorem next_ok {ns : List Int} {st : Nat × Int × Int} {many : Int} (h : okst st) (hm : 0 < many) (hm2 : many < 1073741824) (rest : List Cell) :
    ∃ v st', m__law_next [.loc 1, .int many] (tpc ns st rest) = .ok (.int v) (tpc ns st' rest) ∧ 0 ≤ v ∧ v < many ∧ okst st' := by
  obtain ⟨p, r, s⟩ := st
  obtain ⟨h1, h2, h3⟩ := h
  have e : tapeAt (tpc ns (p, r, s) rest) 1 = some (0, ns, p, r, s) := by
    unfold tapeAt tpc
    simp only [List.getElem?_cons_succ, List.getElem?_cons_zero, intsD_map]
    rw [if_pos ⟨by decide, Int.natCast_nonneg _, h1, h2, h3⟩]
    simp
  refine ⟨(nextV ns p r s many).1, (nextV ns p r s many).2, ?_, ?_⟩
  · unfold m__law_next
    simp only [e]
    rw [if_pos ⟨hm, hm2⟩]
    rfl
  · exact nextV_ok hm ⟨h1, h2, h3⟩

/-! ### bits and words -/
theorem bitL_succ (v : Int) (n : Nat) : bitL v (n + 1) = (v % 2) :: bitL (v / 2) n := by
  unfold bitL
  rw [List.range_succ_eq_map, List.map_cons, List.map_map]
  congr 1
  · simp
  · refine List.map_congr_left fun k _ => ?_
    show v / 2 ^ (k + 1) % 2 = v / 2 / 2 ^ k % 2
    rw [Int.pow_succ, Int.mul_comm, Int.ediv_ediv_of_nonneg (by decide)]
theorem wordL_bitL : ∀ (n : Nat) (v : Int), 0 ≤ v → v < 2 ^ n → wordL (bitL v n) = v
  | 0, v, h0, h1 => by
    have : v = 0 := by simp at h1; omega
    subst this; rfl
  | n + 1, v, h0, h1 => by
    rw [bitL_succ]
    show v % 2 + 2 * wordL (bitL (v / 2) n) = v
    rw [wordL_bitL n (v / 2) (by omega) (by rw [Int.pow_succ] at h1; omega)]
    omega
theorem bitL_length (v : Int) (n : Nat) : (bitL v n).length = n := by simp [bitL]
theorem bitL_01 {v : Int} {n : Nat} : ∀ b ∈ bitL v n, 0 ≤ b ∧ b ≤ 1 := fun b hb => by
  obtain ⟨k, _, rfl⟩ := List.mem_map.mp hb
  omega
theorem oddN_bitL : ∀ (n f : Nat) (v : Nat), v < 2 ^ n → n ≤ f → oddN f v = decide ((bitL v n).sum % 2 = 1)
  | 0, f, v, h, _ => by
    have : v = 0 := by simp at h; omega
    subst this
    have z : ∀ f, oddN f 0 = false := fun f => by
      induction f with
      | zero => rfl
      | succ f ih => simp [oddN, ih]
    rw [z]; rfl
  | n + 1, 0, v, h, hf => absurd hf (by omega)
  | n + 1, f + 1, v, h, hf => by
    rw [bitL_succ, List.sum_cons]
    show xor (decide (v % 2 = 1)) (oddN f (v / 2)) = _
    rw [oddN_bitL n f (v / 2) (by rw [Nat.pow_succ] at h; omega) (by omega)]
    have e : ((v : Int) / 2) = ((v / 2 : Nat) : Int) := by omega
    rw [e]
    generalize (bitL ((v / 2 : Nat) : Int) n).sum = t
    by_cases h1 : v % 2 = 1
    · have : (v : Int) % 2 = 1 := by omega
      rw [this]
      by_cases h2 : t % 2 = 1
      · simp [h1, h2]; omega
      · simp [h1, h2]; omega
    · have : (v : Int) % 2 = 0 := by omega
      rw [this]
      simp [h1]
theorem splitL_joinL : ∀ (v : List Int) (w : List Nat), v.length = w.length → (∀ (i : Nat) (h : i < v.length) (h' : i < w.length), 0 ≤ v[i] ∧ v[i] < 2 ^ w[i]) → splitL (joinL v w) w = v
  | [], [], _, _ => rfl
  | a :: v, n :: w, h, hb => by
    have h0 := hb 0 (by simp) (by simp)
    simp only [List.getElem_cons_zero] at h0
    unfold joinL splitL
    rw [List.take_left' (bitL_length a n), List.drop_left' (bitL_length a n), wordL_bitL n a h0.1 h0.2, splitL_joinL v w (by simpa using h) fun i hi hi' => by
      have := hb (i + 1) (by simpa using hi) (by simpa using hi')
      simpa using this]
  | [], _ :: _, h, _ => by simp at h
  | _ :: _, [], h, _ => by simp at h
end K01

namespace K01
open PySem PySem.Spec PyProof.Rows L2 Fx

theorem seq_ex {a b : MS} {sd sd1 : Sl} {S S1 : List Cell} (h1 : a sd S = .nx sd1 S1) (h2 : ∃ S2, b sd1 S1 = .rt (.bl true) S2) : ∃ S2, mSeq a b sd S = .rt (.bl true) S2 := by
  obtain ⟨S2, h2⟩ := h2
  exact ⟨S2, seq_nx h1 h2⟩
theorem sl7 {n : Nat} (h : n ≤ 1000) : n ≤ sizeLine := line_le (by omega)
/-- what is judged the same lets the law go on -/
theorem if_same {c : MA} {sd : Sl} {S S1 : List Cell} {a b : D} (h : c sd S = .ok [a, b] S1) (hs : SameP S1 9 a b) : (mIf (mNot (mTru (mCall m__law_same c))) (mRet (mC (.bl false))) mNext) sd S = .nx sd S1 := by
  simp only [mIf_ev, mNot_ev, mTru_ev, mCall_ev, h, bind_ok, show m__law_same = m_same 9 from rfl, m_same_ok hs, truD_bl, optR_some, thenS_ok, Bool.not_true, Bool.false_eq_true, if_false, mNext_ev]
theorem sameL_self {R : D → D → Prop} : ∀ {xs : List D}, (∀ x ∈ xs, R x x) → sameL R xs xs
  | [], _ => trivial
  | x :: xs, h => ⟨h x (by simp), sameL_self fun y hy => h y (by simp [hy])⟩
theorem same_ints {S : List Cell} {n : Nat} (ns : List Int) (h : ns.length ≤ 1000) : SameP S (n + 2) (.tup (ns.map D.int)) (.tup (ns.map D.int)) := by
  refine ⟨by simpa using h, sameL_self fun x hx => ?_⟩
  obtain ⟨i, _, rfl⟩ := List.mem_map.mp hx
  show i = i
  rfl
theorem if_ex {c : MA} {rest : MS} {sd : Sl} {S : List Cell} (h : ∃ S1 a b, c sd S = .ok [a, b] S1 ∧ SameP S1 9 a b ∧ ∃ S2, rest sd S1 = .rt (.bl true) S2) : ∃ S2, mSeq (mIf (mNot (mTru (mCall m__law_same c))) (mRet (mC (.bl false))) mNext) rest sd S = .rt (.bl true) S2 := by
  obtain ⟨S1, a, b, e, hs, h2⟩ := h
  exact seq_ex (if_same e hs) h2
theorem app_get (S l : List Cell) (k : Nat) : (S ++ l)[S.length + k]? = l[k]? := by
  rw [List.getElem?_append_right (by omega)]
  congr 1
  omega
theorem app_get0 (S l : List Cell) : (S ++ l)[S.length]? = l[0]? := app_get S l 0
theorem same_bls {S : List Cell} {n i j : Nat} (bs : List Bool) (hi : cellL S i = some (bs.map D.bl)) (hj : cellL S j = some (bs.map D.bl)) (h : bs.length ≤ 1000) : SameP S (n + 2) (.loc i) (.loc j) := by
  refine ⟨_, _, hi, hj, by simpa using h, sameL_self fun x hx => ?_⟩
  obtain ⟨i, _, rfl⟩ := List.mem_map.mp hx
  show i = i
  rfl
theorem app_old {S l : List Cell} {n : Nat} {c : Cell} (h : S[n]? = some c) : (S ++ l)[n]? = some c := by
  rw [List.getElem?_append_left (List.getElem?_eq_some_iff.mp h).1]
  exact h
theorem joinL_01 : ∀ {v : List Int} {w : List Nat}, ∀ b ∈ joinL v w, 0 ≤ b ∧ b ≤ 1
  | [], [], b, h => by cases h
  | [], _ :: _, b, h => by cases h
  | _ :: _, [], b, h => by cases h
  | a :: v, n :: w, b, h => by
    unfold joinL at h
    rcases List.mem_append.mp h with h | h
    · exact bitL_01 b h
    · exact joinL_01 b h
theorem lc_fn {xs : List D} {gd : Option Nat} {f : List D → List Cell → Res D} {r : MA} {es : List D} (p : D → Bool) {sd : Sl} {S : List Cell} (hok : (⟨xs, gd⟩ : ItD).okAt S) (hr : ∀ x, r ((wipeD sd [13]).set 13 (some x)) S = .ok es S) (hm : ∀ x ∈ xs, f (x :: es) S = .ok (.bl (p x)) S)
    (h13 : 13 < (wipeD sd [13]).length) (hz : xs.length ≤ 1000) : lcGo ⟨xs, gd⟩ [13] (gN 13) mYes (mCall f (mCons (mVar 13) r)) sd xs [] S = .ok ((xs.map p).map D.bl) S := by
  rw [lcGo_map (it := ⟨xs, gd⟩) (g := gN 13) (t := mYes) (e := mCall f (mCons (mVar 13) r)) (ws := [13]) (fun d => .bl (p d)) hok xs [] (fun x hx => ⟨_, rfl, rfl, by
    simp only [mCall_ev, mCons_ev, mVar_ev, List.getElem?_set_self h13, bind_ok, hr, hm x hx]⟩) (by rw [List.length_nil, Nat.zero_add]; exact sl7 hz)]
  rw [List.nil_append, List.map_map]
  rfl
/-- .. + [b] * n -/
theorem add_rep {A : ME} {sd : Sl} {S S1 : List Cell} {i : Nat} {xs : List D} {b : D} (k : Int) (n : Nat) (hA : A sd S = .ok (.loc i) S1) (hi : S1[i]? = some (.lst xs)) (hk : k = n) (hn : n ≤ 100) (hx : xs.length ≤ 100) :
    mBin oAdd A (mBin oMulL (mLst (mCons (mC b) mNil)) (mC (.int k))) sd S = .ok (.loc (S1.length + 2)) (S1 ++ [.lst [b], .lst (List.replicate n b), .lst (xs ++ List.replicate n b)]) := by
  subst hk
  have e : (List.replicate n [b]).flatten = List.replicate n b := by
    clear hn
    induction n with
    | zero => rfl
    | succ n ih => rw [List.replicate_succ, List.flatten_cons, ih]; rfl
  have z1 : 1 ≤ sizeLine := sl7 (by omega)
  have z2 : [b].length * n ≤ sizeLine := sl7 (by rw [List.length_singleton]; omega)
  have z3 : xs.length + n ≤ sizeLine := sl7 (by omega)
  simp only [mBin_ev, hA, mLst_ev, mC_ev, mCons_ev, mNil_ev, bind_ok, List.length_cons, List.length_nil, Nat.zero_add, z1, if_true, oMulL_loc, mlst_ev, app_get0, List.getElem?_cons_zero, Int.toNat_natCast]
  rw [if_pos ⟨by omega, by omega, z2⟩]
  simp only [bind_ok, oAdd_loc, mlst_ev, List.append_assoc, List.cons_append, List.nil_append, app_old hi, List.length_append, List.length_cons, List.length_nil, Nat.zero_add, app_get, List.getElem?_cons_succ, List.getElem?_cons_zero, e, List.length_replicate, z3, if_true]
/-- [a] * m -/
theorem rep_ev {sd : Sl} {S : List Cell} {b : D} (k : Int) (n : Nat) (hk : k = n) (hn : n ≤ 100) :
    mBin oMulL (mLst (mCons (mC b) mNil)) (mC (.int k)) sd S = .ok (.loc (S.length + 1)) (S ++ [.lst [b], .lst (List.replicate n b)]) := by
  subst hk
  have e : (List.replicate n [b]).flatten = List.replicate n b := by
    clear hn
    induction n with
    | zero => rfl
    | succ n ih => rw [List.replicate_succ, List.flatten_cons, ih]; rfl
  have z1 : 1 ≤ sizeLine := sl7 (by omega)
  have z2 : [b].length * n ≤ sizeLine := sl7 (by rw [List.length_singleton]; omega)
  simp only [mBin_ev, mLst_ev, mC_ev, mCons_ev, mNil_ev, bind_ok, List.length_cons, List.length_nil, Nat.zero_add, z1, if_true, oMulL_loc, mlst_ev, app_get0, List.getElem?_cons_zero, Int.toNat_natCast]
  rw [if_pos ⟨by omega, by omega, z2⟩]
  simp only [e, List.append_assoc, List.cons_append, List.nil_append, List.length_append, List.length_cons, List.length_nil]
theorem lst_ev {A : MA} {sd : Sl} {S S1 : List Cell} {ds : List D} (h : A sd S = .ok ds S1) (hz : ds.length ≤ 1000) : mLst A sd S = .ok (.loc S1.length) (S1 ++ [.lst ds]) := by
  rw [mLst_ev, h, bind_ok, if_pos (sl7 hz)]
theorem cons_ok {a : ME} {r : MA} {sd : Sl} {S S1 S2 : List Cell} {d : D} {ds : List D} (h1 : a sd S = .ok d S1) (h2 : r sd S1 = .ok ds S2) : mCons a r sd S = .ok (d :: ds) S2 := by
  rw [mCons_ev, h1, bind_ok, h2]; rfl
theorem cell_app {S L : List Cell} {k : Nat} {x : List D} (h : L[k]? = some (.lst x)) : cellL (S ++ L) (S.length + k) = some x := by
  rw [cellL_ev, app_get, h]
theorem law_rest (S : List Cell) (ns : List Int) (w : Nat) (w1 : 1 ≤ w) (w16 : w ≤ 16) (word other : Int) (wa : 0 ≤ word) (wb : word < 2 ^ w) (ws vs : List Int) (kk : Option D) (lvs : vs.length = ws.length) (lws : ws.length < 4) (hws : ∀ x ∈ ws, 1 ≤ x ∧ x ≤ 16)
    (hvs : ∀ (i : Nat) (h : i < vs.length) (h' : i < ws.length), 0 ≤ vs[i] ∧ vs[i] < 2 ^ (ws[i]).toNat) : ∃ S2, (mSeq (mIf (mNot (mTru (mCall m__law_same (mCons (mLst (mCons (mCall m_joined_bits (mCons (mVar 7) (mCons (mVar 6) mNil))) (mCons (mCall m_split_words (mCons (mVar 8) (mCons (mVar 6) mNil))) (mCons (mC (.int 16)) mNil)))) (mCons (mLst (mCons (mVar 8) (mCons (mVar 7) (mCons (mC (.int 16)) mNil)))) mNil)))))
  (mRet (mC (.bl false)))
  mNext) (mSeq (mSet 10 (mLst (mCons (mC (.int 0)) (mCons (mC (.int 1)) (mCons (mC (.int 16)) (mCons (mC (.int 17)) (mCons (mNeg (mC (.int 1))) (mCons (mC (.bl true)) (mCons (mC .non) (mCons (mC (.str (cs "1"))) (mCons (mTup (mCons (mC (.int 1)) mNil)) mNil)))))))))))
  (mSeq (mIf (mNot (mTru (mCall m__law_same (mCons (mLst (mCons (mFresh (mLc (mSeqI (mVar 10)) [13] (gN 13) mYes (mCall m_is_count (mCons (mVar 13) mNil)))) (mCons (mFresh (mLc (mSeqI (mVar 10)) [13] (gN 13) mYes (mCall m_is_width (mCons (mVar 13) mNil)))) mNil))) (mCons (mLst (mCons (mBin oAdd (mBin oMulL (mLst (mCons (mC (.bl true)) mNil)) (mC (.int 4))) (mBin oMulL (mLst (mCons (mC (.bl false)) mNil)) (mC (.int 5)))) (mCons (mBin oAdd (mLst (mCons (mC (.bl false)) (mCons (mC (.bl true)) (mCons (mC (.bl true)) mNil)))) (mBin oMulL (mLst (mCons (mC (.bl false)) mNil)) (mC (.int 6)))) mNil))) mNil)))))
  (mRet (mC (.bl false)))
  mNext)
  (mSeq (mSet 11 (mFresh (mLc (mSeqI (mTup (mCons (mVar 3) (mCons (mBin oSub (mBin oShl (mC (.int 1)) (mVar 2)) (mC (.int 1))) (mCons (mBin oShl (mC (.int 1)) (mVar 2)) (mCons (mNeg (mC (.int 1))) (mCons (mC (.bl true)) (mCons (mC .non) (mCons (mC (.str (cs "0"))) mNil))))))))) [13] (gN 13) mYes (mCall m_is_word (mCons (mVar 13) (mCons (mVar 2) mNil))))))
  (mSeq (mIf (mNot (mTru (mCall m__law_same (mCons (mVar 11) (mCons (mBin oAdd (mLst (mCons (mC (.bl true)) (mCons (mC (.bl true)) mNil))) (mBin oMulL (mLst (mCons (mC (.bl false)) mNil)) (mC (.int 5)))) mNil)))))
  (mRet (mC (.bl false)))
  mNext)
  (mSeq (mSet 12 (mLst (mCons (mVar 5) (mCons (mB oListC (mCons (mVar 5) mNil)) (mCons (mBin oAdd (mVar 5) (mTup (mCons (mC (.int 0)) mNil))) (mCons (mSlice (mVar 5) (mPart (mC (.int 1))) mNoPart) (mCons (mC .non) (mCons (mBin oAdd (mSlice (mVar 5) mNoPart (mPart (mNeg (mC (.int 1))))) (mTup (mCons (mC (.int 2)) mNil))) (mCons (mBin oAdd (mSlice (mVar 5) mNoPart (mPart (mNeg (mC (.int 1))))) (mTup (mCons (mC (.bl true)) mNil))) (mCons (mBin oAdd (mSlice (mVar 5) mNoPart (mPart (mNeg (mC (.int 1))))) (mTup (mCons (mNeg (mC (.int 1))) mNil))) mNil))))))))))
  (mRet (mCall m__law_same (mCons (mFresh (mLc (mSeqI (mVar 12)) [13] (gN 13) mYes (mCall m_is_bits (mCons (mVar 13) (mCons (mVar 2) mNil))))) (mCons (mBin oAdd (mLst (mCons (mC (.bl true)) mNil)) (mBin oMulL (mLst (mCons (mC (.bl false)) mNil)) (mC (.int 7)))) mNil))))))))))
   [some (.cst (ns.map D.int)), some (.loc 1), some (.int w), some (.int word), some (.int other), some (.tup ((bitL word w).map D.int)), some (.tup (ws.map D.int)), some (.tup (vs.map D.int)), some (.tup ((joinL vs (ws.map Int.toNat)).map D.int)), kk, none, none, none, none, none] S = .rt (.bl true) S2 := by
  have hsl : ∀ n : Nat, n ≤ 100 → n ≤ sizeLine := fun n h => sl7 (by omega)
  have lj : (joinL vs (ws.map Int.toNat)).length ≤ 1000 := by
    have := joinL_length vs (ws.map Int.toNat) (fun x hx => by
      obtain ⟨y, hy, rfl⟩ := List.mem_map.mp hx
      have := hws y hy
      omega)
    omega
  have g1 : ∀ S, m_joined_bits [.tup (vs.map D.int), .tup (ws.map D.int)] S = .ok (.tup ((joinL vs (ws.map Int.toNat)).map D.int)) S := fun S => by
    unfold m_joined_bits
    simp only [intsD_map]
    rw [if_pos ⟨lvs, hws, by omega⟩]
  have g2 : ∀ S, m_split_words [.tup ((joinL vs (ws.map Int.toNat)).map D.int), .tup (ws.map D.int)] S = .ok (.tup (vs.map D.int)) S := fun S => by
    unfold m_split_words
    simp only [intsD_map]
    rw [if_pos ⟨joinL_01, hws, by omega, by omega⟩, splitL_joinL]
    · simpa using lvs
    · intro i h h'
      have := hvs i h (by simpa using h')
      simpa using this
  have h3 := hsl 3 (by omega)
  refine if_ex ⟨S ++ [.lst [.tup ((joinL vs (ws.map Int.toNat)).map D.int), .tup (vs.map D.int), .int 16], .lst [.tup ((joinL vs (ws.map Int.toNat)).map D.int), .tup (vs.map D.int), .int 16]], .loc S.length, .loc (S.length + 1), ?_, ?_, ?_⟩
  · simp only [mCons_ev, mLst_ev, mCall_ev, mVar_ev, mC_ev, mNil_ev, bind_ok, List.getElem?_cons_succ, List.getElem?_cons_zero, g1, g2, List.length_cons, List.length_nil, Nat.zero_add, h3, if_true, List.append_assoc, List.cons_append, List.nil_append, List.length_append]
  · have c1 : ∀ (x y : List D), cellL (S ++ [.lst x, .lst y]) S.length = some x := fun x y => by simp only [cellL_ev, app_get0, List.getElem?_cons_zero]
    have c2 : ∀ (x y : List D), cellL (S ++ [.lst x, .lst y]) (S.length + 1) = some y := fun x y => by simp only [cellL_ev, app_get, List.getElem?_cons_succ, List.getElem?_cons_zero]
    exact ⟨_, _, c1 _ _, c2 _ _, by simp, same_ints _ lj, same_ints _ (by omega), rfl, trivial⟩
  generalize S ++ [Cell.lst [.tup ((joinL vs (ws.map Int.toNat)).map D.int), .tup (vs.map D.int), .int 16], .lst [.tup ((joinL vs (ws.map Int.toNat)).map D.int), .tup (vs.map D.int), .int 16]] = S0
  have hodd : ∀ x ∈ [D.int 0, .int 1, .int 16, .int 17, .int (-1), .bl true, .non, .str (cs "1"), .tup [.int 1]], ∀ S, (tyD S x).isSome = true := fun x hx S => by
    simp only [List.mem_cons, List.not_mem_nil, or_false] at hx
    rcases hx with rfl | rfl | rfl | rfl | rfl | rfl | rfl | rfl | rfl <;> simp
  have m1 : [D.int 0, .int 1, .int 16, .int 17, .int (-1), .bl true, .non, .str (cs "1"), .tup [.int 1]].map isCount = [true, true, true, true, false, false, false, false, false] := by
    simp [isCount]
  have m2 : [D.int 0, .int 1, .int 16, .int 17, .int (-1), .bl true, .non, .str (cs "1"), .tup [.int 1]].map isWidth = [false, true, true, false, false, false, false, false, false] := by
    simp [isWidth]
  generalize hod : [D.int 0, .int 1, .int 16, .int 17, .int (-1), .bl true, .non, .str (cs "1"), .tup [.int 1]] = odd at hodd m1 m2
  have lod : odd.length = 9 := by rw [← hod]; rfl
  refine seq_ex (sd1 := [some (.cst (ns.map D.int)), some (.loc 1), some (.int w), some (.int word), some (.int other), some (.tup ((bitL word w).map D.int)), some (.tup (ws.map D.int)), some (.tup (vs.map D.int)), some (.tup ((joinL vs (ws.map Int.toNat)).map D.int)), kk, some (.loc S0.length), none, none, none, none]) (S1 := S0 ++ [.lst odd]) ?_ ?_
  · rw [← hod]
    simp [hsl 9 (by omega), hsl 1 (by omega)]
  generalize hsd : [some (D.cst (ns.map D.int)), some (.loc 1), some (.int w), some (.int word), some (.int other), some (.tup ((bitL word w).map D.int)), some (.tup (ws.map D.int)), some (.tup (vs.map D.int)), some (.tup ((joinL vs (ws.map Int.toNat)).map D.int)), kk, some (.loc S0.length), none, none, none, none] = sd
  have E : ∀ (m : List D → List Cell → Res D) (p : D → Bool), (∀ x S, (tyD S x).isSome = true → m [x] S = .ok (.bl (p x)) S) → ∀ l bs, odd.map p = bs →
      mFresh (mLc (mSeqI (mVar 10)) [13] (gN 13) mYes (mCall m (mCons (mVar 13) mNil))) sd (S0 ++ .lst odd :: l) = .ok (.loc (S0 ++ .lst odd :: l).length) (S0 ++ .lst odd :: l ++ [.lst (bs.map D.bl)]) := fun m p hm l bs hb => by
    subst hb
    have c0 : cellL (S0 ++ .lst odd :: l) S0.length = some odd := by simp only [cellL_ev, app_get0, List.getElem?_cons_zero]
    have hv : mVar 10 sd (S0 ++ .lst odd :: l) = .ok (.loc S0.length) (S0 ++ .lst odd :: l) := by rw [← hsd]; rfl
    rw [mFresh_ev, mLc_ev, mSeqI_ev, hv]
    simp only [bind_ok, c0]
    rw [lc_fn (xs := odd) (gd := some S0.length) (es := []) p c0 (fun _ => rfl) (fun x hx => hm x _ (hodd x hx _)) (by rw [← hsd]; simp [wipeD]) (by rw [lod]; omega)]
    simp only [bind_ok]
  have E1 := E m_is_count isCount (fun x S h => by unfold m_is_count; simp only; rw [if_pos h])
  have E2 := E m_is_width isWidth (fun x S h => by unfold m_is_width; simp only; rw [if_pos h])
  have e1 := E1 [] _ m1
  have e2 := E2 [.lst ([true, true, true, true, false, false, false, false, false].map D.bl)] _ m2
  rw [List.append_assoc, List.cons_append, List.nil_append] at e1
  refine if_ex ⟨S0 ++ [Cell.lst odd, .lst ([true, true, true, true, false, false, false, false, false].map D.bl), .lst ([false, true, true, false, false, false, false, false, false].map D.bl), .lst [.loc (S0.length + 1), .loc (S0.length + 2)], .lst [.bl true], .lst (List.replicate 4 (.bl true)), .lst [.bl false], .lst (List.replicate 5 (.bl false)),
     .lst (List.replicate 4 (.bl true) ++ List.replicate 5 (.bl false)), .lst [.bl false, .bl true, .bl true], .lst [.bl false], .lst (List.replicate 6 (.bl false)), .lst ([.bl false, .bl true, .bl true] ++ List.replicate 6 (.bl false)), .lst [.loc (S0.length + 8), .loc (S0.length + 12)]], .loc (S0.length + 3), .loc (S0.length + 13), ?_, ?_, ?_⟩
  · have a1 := lst_ev (cons_ok e1 (cons_ok e2 (mNil_ev (sd := sd)))) (by simp)
    have r1 := add_rep (b := .bl false) (S := S0 ++ [Cell.lst odd, .lst ([true, true, true, true, false, false, false, false, false].map D.bl), .lst ([false, true, true, false, false, false, false, false, false].map D.bl), .lst [.loc (S0.length + 1), .loc (S0.length + 2)]]) (sd := sd) 5 5 (rep_ev (b := .bl true) 4 4 rfl (by omega)) ((app_get _ _ 1).trans rfl) rfl (by omega) (by simp)
    simp only [List.append_assoc, List.cons_append, List.nil_append, List.length_append, List.length_cons, List.length_nil, Nat.zero_add, Nat.add_assoc, Nat.reduceAdd] at a1 r1
    have r2 := fun S => add_rep (b := .bl false) (S := S) 6 6 (lst_ev (sd := sd) (cons_ok (mC_ev (D.bl false)) (cons_ok (mC_ev (D.bl true)) (cons_ok (mC_ev (D.bl true)) mNil_ev))) (by simp)) ((app_get0 _ _).trans rfl) rfl (by omega) (by simp)
    have a2 := lst_ev (cons_ok r1 (cons_ok (r2 _) mNil_ev)) (by simp)
    have a3 := cons_ok a1 (cons_ok a2 mNil_ev)
    simp only [List.append_assoc, List.cons_append, List.nil_append, List.length_append, List.length_cons, List.length_nil, Nat.zero_add, Nat.add_assoc, Nat.reduceAdd] at a3
    exact a3
  · exact ⟨_, _, cell_app (k := 3) rfl, cell_app (k := 13) rfl, by simp, same_bls [true, true, true, true, false, false, false, false, false] (cell_app (k := 1) rfl) (cell_app (k := 8) rfl) (by simp), same_bls [false, true, true, false, false, false, false, false, false] (cell_app (k := 2) rfl) (cell_app (k := 12) rfl) (by simp), trivial⟩
  generalize S0 ++ [Cell.lst odd, _, _, _, _, _, _, _, _, _, _, _, _, _] = S3
  clear E E1 E2 e1 e2 m1 m2 hodd hod lod
  have lb : (bitL word w).length = w := bitL_length _ _
  have pw : (0 : Int) < 2 ^ w ∧ (2 : Int) ^ w < 1073741824 := by
    have h1 : (2 : Int) ^ w ≤ 2 ^ 16 := by
      have : (2 : Nat) ^ w ≤ 2 ^ 16 := Nat.pow_le_pow_right (by decide) w16
      have e : ∀ k : Nat, ((2 : Nat) ^ k : Int) = (2 : Int) ^ k := fun k => by norm_cast
      rw [← e, ← e]
      exact_mod_cast this
    have h2 : (0 : Int) < 2 ^ w := Int.pow_pos (by decide)
    refine ⟨h2, ?_⟩
    have : (2 : Int) ^ 16 = 65536 := by decide
    omega
  have cw : cPow 1 (w : Int) = true := by unfold cPow; simp; omega
  have hw3 : ∀ S, mVar 2 sd S = .ok (.int w) S := fun S => by rw [← hsd]; rfl
  -- told
  refine seq_ex (sd1 := sd.set 11 (some (.loc S3.length))) (S1 := S3 ++ [.lst ([true, true, false, false, false, false, false].map D.bl)]) ?_ ?_
  · have hx : (mTup (mCons (mVar 3) (mCons (mBin oSub (mBin oShl (mC (.int 1)) (mVar 2)) (mC (.int 1))) (mCons (mBin oShl (mC (.int 1)) (mVar 2)) (mCons (mNeg (mC (.int 1))) (mCons (mC (.bl true)) (mCons (mC .non) (mCons (mC (.str (cs "0"))) mNil)))))))) sd S3 =
        .ok (.tup [.int word, .int (2 ^ w - 1), .int (2 ^ w), .int (-1), .bl true, .non, .str (cs "0")]) S3 := by
      rw [← hsd]
      simp [oShl, oSub, cw, hsl 7 (by omega)]
    rw [mSet_ev, mFresh_ev, mLc_ev, mSeqI_ev, hx]
    simp only [bind_ok]
    rw [lc_fn (gd := none) (es := [.int w]) (isWord w) trivial (fun x => by rw [← hsd]; simp [wipeD]) (fun x hx => by
      have ht : (tyD S3 x).isSome = true := by
        simp only [List.mem_cons, List.not_mem_nil, or_false] at hx
        rcases hx with rfl | rfl | rfl | rfl | rfl | rfl | rfl <;> simp
      unfold m_is_word
      simp only
      rw [if_pos ⟨ht, by omega, by omega⟩, Int.toNat_natCast]) (by rw [← hsd]; simp [wipeD]) (by simp)]
    have e : [D.int word, .int (2 ^ w - 1), .int (2 ^ w), .int (-1), .bl true, .non, .str (cs "0")].map (isWord w) = [true, true, false, false, false, false, false] := by
      simp [isWord, wa, wb]
      omega
    simp only [e, bind_ok, thenS_ok]
  refine if_ex ⟨S3 ++ [.lst ([true, true, false, false, false, false, false].map D.bl), .lst [.bl true, .bl true], .lst [.bl false], .lst (List.replicate 5 (.bl false)), .lst ([.bl true, .bl true] ++ List.replicate 5 (.bl false))], .loc S3.length, .loc (S3.length + 4), ?_, ?_, ?_⟩
  · have r2 := fun S => add_rep (b := .bl false) (S := S) 5 5 (lst_ev (sd := sd.set 11 (some (.loc S3.length))) (cons_ok (mC_ev (D.bl true)) (cons_ok (mC_ev (D.bl true)) mNil_ev)) (by simp)) ((app_get0 _ _).trans rfl) rfl (by omega) (by simp)
    have hv : ∀ S, mVar 11 (sd.set 11 (some (.loc S3.length))) S = .ok (.loc S3.length) S := fun S => by rw [← hsd]; rfl
    have a3 := cons_ok (hv _) (cons_ok (r2 (S3 ++ [.lst ([true, true, false, false, false, false, false].map D.bl)])) mNil_ev)
    simp only [List.append_assoc, List.cons_append, List.nil_append, List.length_append, List.length_cons, List.length_nil, Nat.zero_add, Nat.add_assoc, Nat.reduceAdd] at a3
    exact a3
  · exact same_bls [true, true, false, false, false, false, false] (cell_app (k := 0) rfl) (cell_app (k := 4) rfl) (by simp)
  generalize S3 ++ [Cell.lst ([true, true, false, false, false, false, false].map D.bl), _, _, _, _] = S4
  generalize hsd2 : sd.set 11 (some (.loc S3.length)) = sd2
  have hv2 : ∀ S, mVar 2 sd2 S = .ok (.int w) S := fun S => by rw [← hsd2, ← hsd]; rfl
  have hv5 : ∀ S, mVar 5 sd2 S = .ok (.tup ((bitL word w).map D.int)) S := fun S => by rw [← hsd2, ← hsd]; rfl
  have lsd2 : sd2.length = 15 := by rw [← hsd2, ← hsd]; rfl
  have c1 : cutG ((bitL word w).map D.int) (some 1) none = ((bitL word w).map D.int).drop 1 := by
    have e : (1 : Int) = ((1 : Nat) : Int) := rfl
    unfold cutG
    rw [e, HT.sIx_nat, HT.sIx_none, List.length_map, lb, Nat.min_eq_left w1, List.take_of_length_le (by simp [lb])]
  have c2 : cutG ((bitL word w).map D.int) none (some (-1)) = ((bitL word w).map D.int).take (w - 1) := by
    have e : HT.sIx w w (some (-1)) = w - 1 := by
      show (if (-1 : Int) < 0 then ((-1 : Int) + (w : Int)).toNat else min (-1 : Int).toNat w) = w - 1
      rw [if_pos (by omega)]
      omega
    unfold cutG
    rw [HT.sIx_none, List.length_map, lb, e]
    simp
  have hB : ∀ d ∈ (bitL word w).map D.int, isBit d = true ∧ ∀ S, (tyD S d).isSome = true := fun d hd => by
    obtain ⟨b, hb, rfl⟩ := List.mem_map.mp hd
    have := bitL_01 b hb
    exact ⟨by simp [isBit]; omega, fun S => rfl⟩
  have lB : ((bitL word w).map D.int).length = w := by simp [lb]
  generalize (bitL word w).map D.int = B at hv5 c1 c2 hB lB
  have z17 : w + 1 ≤ sizeLine := hsl _ (by omega)
  have z16 : min (w - 1) w + 1 ≤ sizeLine := hsl _ (by omega)
  have z8 := hsl 8 (by omega)
  have z1 := hsl 1 (by omega)
  refine seq_ex (sd1 := sd2.set 12 (some (.loc (S4.length + 1)))) (S1 := S4 ++ [.lst B, .lst [.tup B, .loc S4.length, .tup (B ++ [.int 0]), .tup (B.drop 1), .non, .tup (B.take (w - 1) ++ [.int 2]), .tup (B.take (w - 1) ++ [.bl true]), .tup (B.take (w - 1) ++ [.int (-1)])]]) ?_ ?_
  · simp only [mSet_ev, mLst_ev, mCons_ev, mNil_ev, mB_ev, mBin_ev, mTup_ev, mSlice_ev, mPart_ev, mNoPart_ev, mC_ev, mNeg_ev, intD_int, hv5, bind_ok, oListC_seq, seqD_tup, List.length_cons, List.length_nil, Nat.zero_add, Nat.reduceAdd, z1, z8, if_true, oAdd_tup, oSl_tup, c1, c2, lB, z17, z16, List.length_take, thenS_ok, List.append_assoc, List.cons_append, List.nil_append, List.length_append]
  generalize hsd3 : sd2.set 12 (some (.loc (S4.length + 1))) = sd3
  have hw2 : ∀ S, mVar 2 sd3 S = .ok (.int w) S := fun S => by
    rw [← hv2 S, mVar_ev, mVar_ev, ← hsd3, List.getElem?_set_ne (by decide)]
  have hw12 : ∀ S, mVar 12 sd3 S = .ok (.loc (S4.length + 1)) S := fun S => by
    rw [mVar_ev, ← hsd3, List.getElem?_set_self (by omega)]
  have lsd3 : sd3.length = 15 := by rw [← hsd3, List.length_set, lsd2]
  generalize hL : [D.tup B, .loc S4.length, .tup (B ++ [.int 0]), .tup (B.drop 1), .non, .tup (B.take (w - 1) ++ [.int 2]), .tup (B.take (w - 1) ++ [.bl true]), .tup (B.take (w - 1) ++ [.int (-1)])] = L12
  have e12 : L12.map (isBits w) = [true, false, false, false, false, false, false, false] := by
    have h2 : isBits w (.tup B) = true := by simp [isBits, lB]; exact fun d hd => (hB d hd).1
    have q : ∀ x, isBit x = false → isBits w (.tup (B.take (w - 1) ++ [x])) = false := fun x hx => by simp [isBits, hx]
    rw [← hL]
    simp only [List.map_cons, List.map_nil, h2, q (.int 2) rfl, q (.bl true) rfl, q (.int (-1)) rfl]
    simp [isBits, lB]
    omega
  have c12 : cellL (S4 ++ [.lst B, .lst L12]) (S4.length + 1) = some L12 := cell_app rfl
  have lL : L12.length = 8 := by rw [← hL]; rfl
  have t12 : ∀ d ∈ L12, m_is_bits [d, .int w] (S4 ++ [.lst B, .lst L12]) = .ok (.bl (isBits w d)) (S4 ++ [.lst B, .lst L12]) := fun d hd => by
    have hT : ∀ l : List D, l.length ≤ 1000 → (∀ x ∈ l, (tyD (S4 ++ [.lst B, .lst L12]) x).isSome = true) → m_is_bits [.tup l, .int w] (S4 ++ [.lst B, .lst L12]) = .ok (.bl (isBits w (.tup l))) (S4 ++ [.lst B, .lst L12]) := fun l h1 h2 => by
      unfold m_is_bits
      simp only
      rw [if_pos ⟨h1, h2⟩]
    have hb : ∀ x ∈ B, (tyD (S4 ++ [.lst B, .lst L12]) x).isSome = true := fun x hx => (hB x hx).2 _
    have hb2 : ∀ (x : D), (∀ S, (tyD S x).isSome = true) → ∀ y ∈ B.take (w - 1) ++ [x], (tyD (S4 ++ [.lst B, .lst L12]) y).isSome = true := fun x hx y hy => by
      rcases List.mem_append.mp hy with h | h
      · exact hb y (List.mem_of_mem_take h)
      · rw [List.mem_singleton.mp h]; exact hx _
    have hb3 : ∀ x, (B.take (w - 1) ++ [x]).length ≤ 1000 := fun x => by simp [lB]; omega
    rw [← hL] at hd
    simp only [List.mem_cons, List.not_mem_nil, or_false] at hd
    rcases hd with rfl | rfl | rfl | rfl | rfl | rfl | rfl | rfl
    · exact hT _ (by omega) hb
    · have : cellL (S4 ++ [.lst B, .lst L12]) S4.length = some B := cell_app (k := 0) rfl
      unfold m_is_bits
      simp only
      rw [tyD_loc, this]
      rfl
    · refine hT _ (by simp [lB]; omega) fun y hy => ?_
      rcases List.mem_append.mp hy with h | h
      · exact hb y h
      · rw [List.mem_singleton.mp h]; rfl
    · exact hT _ (by simp [lB]; omega) fun y hy => hb y (List.mem_of_mem_drop hy)
    · rfl
    · exact hT _ (hb3 _) (hb2 _ fun _ => rfl)
    · exact hT _ (hb3 _) (hb2 _ fun _ => rfl)
    · exact hT _ (hb3 _) (hb2 _ fun _ => rfl)
  have s1 : (mFresh (mLc (mSeqI (mVar 12)) [13] (gN 13) mYes (mCall m_is_bits (mCons (mVar 13) (mCons (mVar 2) mNil))))) sd3 (S4 ++ [.lst B, .lst L12]) = .ok (.loc (S4.length + 2)) (S4 ++ [.lst B, .lst L12, .lst ([true, false, false, false, false, false, false, false].map D.bl)]) := by
    rw [mFresh_ev, mLc_ev, mSeqI_ev, hw12]
    simp only [bind_ok, c12]
    rw [lc_fn (gd := some (S4.length + 1)) (es := [.int w]) (isBits w) c12 (fun x => by
      have : mVar 2 ((wipeD sd3 [13]).set 13 (some x)) (S4 ++ [.lst B, .lst L12]) = .ok (.int w) (S4 ++ [.lst B, .lst L12]) := by
        rw [← hw2, mVar_ev, mVar_ev, List.getElem?_set_ne (by decide)]
        show (match (sd3.set 13 none)[2]? with | some (some d) => _ | _ => _) = _
        rw [List.getElem?_set_ne (by decide)]
        all_goals rfl
      rw [mCons_ev, this]; rfl) t12 (by simp [wipeD, lsd3]) (by omega), e12]
    simp only [bind_ok, List.append_assoc, List.cons_append, List.nil_append, List.length_append, List.length_cons, List.length_nil, Nat.zero_add, Nat.reduceAdd]
  have s2 := add_rep (b := .bl false) 7 7 (lst_ev (sd := sd3) (S := S4 ++ [.lst B, .lst L12, .lst ([true, false, false, false, false, false, false, false].map D.bl)]) (cons_ok (mC_ev (D.bl true)) mNil_ev) (by simp)) ((app_get0 _ _).trans rfl) rfl (by omega) (by simp)
  have s3 := cons_ok s1 (cons_ok s2 mNil_ev)
  simp only [List.append_assoc, List.cons_append, List.nil_append, List.length_append, List.length_cons, List.length_nil, Nat.zero_add, Nat.add_assoc, Nat.reduceAdd] at s3
  have s4 := m_same_ok (n := 9) (S := S4 ++ [Cell.lst B, .lst L12, .lst ([true, false, false, false, false, false, false, false].map D.bl), .lst [.bl true], .lst [.bl false], .lst (List.replicate 7 (.bl false)), .lst (.bl true :: List.replicate 7 (.bl false))]) (same_bls [true, false, false, false, false, false, false, false] (i := S4.length + 2) (j := S4.length + 6) (cell_app (k := 2) rfl) (cell_app (k := 6) rfl) (by simp))
  exact ⟨_, (mRet_ev _).trans (by rw [mCall_ev, s3, bind_ok]; exact congrArg (fun r => Res.thenS r sd3 fun d S1 => .rt d S1) s4)⟩
end K01

namespace K01
open PySem PySem.Spec PyProof.Rows L2 Fx

theorem law_body (ns : List Int) : ∃ S1, b_law (startD 15 [.cst (ns.map D.int)]) [] = .rt (.bl true) S1 := by
  unfold b_law
  have hsl : ∀ n : Nat, n ≤ 20 → n ≤ sizeLine := fun n h => sl7 (by omega)
  -- tape
  refine seq_ex (sd1 := [some (.cst (ns.map D.int)), some (.loc 1), none, none, none, none, none, none, none, none, none, none, none, none, none]) (S1 := tpc ns (0, 0, 1) []) ?_ ?_
  · have := hsl 4 (by omega)
    simp [startD, tpc, this]
  -- width
  obtain ⟨v0, st1, e1, v0a, v0b, ok1⟩ := next_ok (ns := ns) (st := (0, 0, 1)) (many := 16) ⟨by decide, by decide, by decide⟩ (by decide) (by decide) []
  refine seq_ex (sd1 := [some (.cst (ns.map D.int)), some (.loc 1), some (.int (1 + v0)), none, none, none, none, none, none, none, none, none, none, none, none]) (S1 := tpc ns st1 []) (by simp [e1]) ?_
  obtain ⟨w, hw⟩ := Int.eq_ofNat_of_zero_le (show 0 ≤ 1 + v0 by omega)
  rw [hw]
  have w1 : 1 ≤ w := by omega
  have w16 : w ≤ 16 := by omega
  have pw : ∀ n : Nat, n ≤ 16 → (0 : Int) < 2 ^ n ∧ (2 : Int) ^ n < 1073741824 := fun n hn => by
    have h1 : (2 : Int) ^ n ≤ 2 ^ 16 := by
      have : (2 : Nat) ^ n ≤ 2 ^ 16 := Nat.pow_le_pow_right (by decide) hn
      have e : ∀ k : Nat, ((2 : Nat) ^ k : Int) = (2 : Int) ^ k := fun k => by norm_cast
      rw [← e, ← e]
      exact_mod_cast this
    have h2 : (0 : Int) < 2 ^ n := Int.pow_pos (by decide)
    refine ⟨h2, ?_⟩
    have : (2 : Int) ^ 16 = 65536 := by decide
    omega
  have cP : ∀ n : Nat, n ≤ 18 → cPow 1 (n : Int) = true := fun n hn => by unfold cPow; simp; omega
  have cP18 : cPow 1 18 = true := cP 18 (by omega)
  have cP17 : cPow 1 17 = true := cP 17 (by omega)
  have e18 : (1 : Int) * 2 ^ (18 : Int).toNat = 262144 := by decide
  have e17 : (1 : Int) * 2 ^ (17 : Int).toNat = 131072 := by decide
  -- word, other
  obtain ⟨word, st2, e2, wa, wb, ok2⟩ := next_ok (ns := ns) (many := 2 ^ w) ok1 (pw w w16).1 (pw w w16).2 []
  obtain ⟨v2, st3, e3, v2a, v2b, ok3⟩ := next_ok (ns := ns) (many := 262144) ok2 (by decide) (by decide) []
  refine seq_ex (sd1 := [some (.cst (ns.map D.int)), some (.loc 1), some (.int w), some (.int word), some (.int (v2 - 131072)), none, none, none, none, none, none, none, none, none, none]) (S1 := tpc ns st3 []) ?_ ?_
  · have := hsl 2 (by omega)
    simp only [mAsg_ev, mTup_ev, mCons_ev, mCall_ev, mBin_ev, mVar_ev, mC_ev, mNil_ev, bind_ok, thenS_ok, List.getElem?_cons_succ, List.getElem?_cons_zero, oShl, oSub, oInt_ev, cP w (by omega), cP18, cP17, if_true, e18, e17, Int.one_mul, Int.toNat_natCast, e2, e3,
      List.length_cons, List.length_nil, Nat.zero_add, this, gTupD_ev, gsCons_ev, gN_ev, gsNil_ev, List.set_cons_succ, List.set_cons_zero]
  generalize hot : v2 - 131072 = other
  -- bits
  refine seq_ex (sd1 := [some (.cst (ns.map D.int)), some (.loc 1), some (.int w), some (.int word), some (.int other), some (.tup ((bitL word w).map D.int)), none, none, none, none, none, none, none, none, none]) (S1 := tpc ns st3 []) ?_ ?_
  · have c := show c62 (w : Int) = true by unfold c62; simp; omega
    simp only [mSet_ev, mF_ev, mLc_ev, mRng1_ev, mCons_ev, mVar_ev, mNil_ev, bind_ok, List.getElem?_cons_succ, List.getElem?_cons_zero, c, if_true, Int.toNat_natCast]
    rw [lcGo_rng (fun k => .int (word / 2 ^ k % 2)) (sl7 (by omega)) (fun k hk => ⟨_, rfl, rfl, by
      have cd : cDiv word (2 ^ k) = true := by
        have := pw k (by omega)
        unfold cDiv
        simp only [Bool.and_eq_true, decide_eq_true_eq]
        exact this
      simp [wipeD, oDiv, oShl, oAnd, cP k (by omega), cd, bitAnd_m1]⟩)]
    simp [bitL]
  have lb : (bitL word w).length = w := bitL_length _ _
  -- judged
  have odd := oddN_bitL w 64 word.toNat (by
    have h2 : ((word.toNat : Nat) : Int) < ((2 ^ w : Nat) : Int) := by
      rw [Int.toNat_of_nonneg wa]
      exact_mod_cast wb
    exact_mod_cast h2) (by omega)
  rw [Int.toNat_of_nonneg wa] at odd
  refine seq_ex (sd1 := [some (.cst (ns.map D.int)), some (.loc 1), some (.int w), some (.int word), some (.int other), some (.tup ((bitL word w).map D.int)), none, none, none, none, none, none, none, none, none])
    (S1 := tpc ns st3 [.lst [.tup ((bitL word w).map D.int), .int word, .int (other % 2 ^ w), .bl (oddN 64 word.toNat)], .lst [.tup ((bitL word w).map D.int), .int word, .int (other % 2 ^ w), .bl ((bitL word w).sum % 2 == 1)]]) (if_same (a := .loc 2) (b := .loc 3) ?_ ?_) ?_
  · have h4 := hsl 4 (by omega)
    have g1 : ∀ S, m_bits_of [.int word, .int w] S = .ok (.tup ((bitL word w).map D.int)) S := fun S => by
      unfold m_bits_of
      simp only
      rw [if_pos (by omega), Int.toNat_natCast]
    have g2 : ∀ S, m_word_of [.tup ((bitL word w).map D.int)] S = .ok (.int word) S := fun S => by
      unfold m_word_of
      simp only [intsD_map]
      rw [if_pos ⟨by simp [lb]; omega, bitL_01⟩, wordL_bitL w word wa wb]
    have g3 : ∀ S, m_cut_word [.int other, .int w] S = .ok (.int (other % 2 ^ w)) S := fun S => by
      unfold m_cut_word
      simp only
      rw [if_pos (by omega), Int.toNat_natCast]
    have g4 : ∀ S, m_is_odd_word [.int word] S = .ok (.bl (oddN 64 word.toNat)) S := fun S => by
      unfold m_is_odd_word
      simp only
      have := pw w w16
      rw [if_pos ⟨wa, by omega⟩]
    have dp : decide ((0 : Int) < 2 ^ w) = true := decide_eq_true (pw w w16).1
    simp only [mCons_ev, mLst_ev, mCall_ev, mVar_ev, mNil_ev, bind_ok, List.getElem?_cons_succ, List.getElem?_cons_zero, g1, g2, g3, g4, List.length_cons, List.length_nil, Nat.zero_add, h4, if_true, mBin_ev, mB_ev, mC_ev, oIntC_int, oMod, oInt_ev, oShl, cP w (by omega), Int.one_mul, Int.toNat_natCast, dp, oSum_seq, seqD_tup, Option.bind_some, intsD_map, oAnd, oEq_int, bitAnd_m1]
    simp [tpc]
  · refine ⟨_, _, rfl, rfl, by simp, same_ints _ (by rw [lb]; omega), rfl, rfl, ?_, trivial⟩
    show oddN 64 word.toNat = _
    rw [odd]
    generalize (bitL word w).sum = t
    by_cases h1 : t % 2 = 1 <;> simp [h1]
  generalize hr1 : [Cell.lst [.tup ((bitL word w).map D.int), .int word, .int (other % 2 ^ w), .bl (oddN 64 word.toNat)], Cell.lst [.tup ((bitL word w).map D.int), .int word, .int (other % 2 ^ w), .bl ((bitL word w).sum % 2 == 1)]] = r1
  have lr1 : r1.length = 2 := by rw [← hr1]; rfl
  -- widths
  obtain ⟨m, st4, e4, ma, mb, ok4⟩ := next_ok (ns := ns) (many := 4) ok3 (by decide) (by decide) r1
  obtain ⟨mm, hm⟩ := Int.eq_ofNat_of_zero_le ma
  subst hm
  have e5 : ∃ (ws : List Int) (st5 : Nat × Int × Int), lcGo ⟨rngD 0 mm, none⟩ [9] (gN 9) mYes (mBin oAdd (mC (.int 1)) (mCall m__law_next (mCons (mVar 1) (mCons (mC (.int 16)) mNil))))
      [some (.cst (ns.map D.int)), some (.loc 1), some (.int w), some (.int word), some (.int other), some (.tup ((bitL word w).map D.int)), none, none, none, none, none, none, none, none, none] (rngD 0 mm) [] (tpc ns st4 r1) = .ok (ws.map D.int) (tpc ns st5 r1) ∧ ws.length = mm ∧ (∀ x ∈ ws, 1 ≤ x ∧ x ≤ 16) ∧ okst st5 := by
    obtain ⟨acc, S', e, ws, st5, h1, h2, h3, h4, h5⟩ := lcGo_run (it := ⟨rngD 0 mm, none⟩) (ws := [9]) (g := gN 9) (t := mYes) (e := (mBin oAdd (mC (.int 1)) (mCall m__law_next (mCons (mVar 1) (mCons (mC (.int 16)) mNil)))))
      (sd := [some (.cst (ns.map D.int)), some (.loc 1), some (.int w), some (.int word), some (.int other), some (.tup ((bitL word w).map D.int)), none, none, none, none, none, none, none, none, none])
      (fun r acc S => ∃ (ws : List Int) (st5 : Nat × Int × Int), acc = ws.map D.int ∧ S = tpc ns st5 r1 ∧ ws.length + r.length = mm ∧ (∀ x ∈ ws, 1 ≤ x ∧ x ≤ 16) ∧ okst st5) (fun _ _ _ _ => trivial) (fun x r acc S ⟨ws, st5, h1, h2, h3, h4, h5⟩ => by
        subst h1 h2
        obtain ⟨v, st6, e6, va, vb, ok6⟩ := next_ok (ns := ns) (many := 16) h5 (by decide) (by decide) r1
        refine ⟨_, _, true, _, rfl, rfl, ?_⟩
        rw [if_pos rfl]
        refine ⟨.int (1 + v), tpc ns st6 r1, by simp [wipeD, e6], by rw [sizeLine_eq, List.length_map]; rw [List.length_cons] at h3; omega, ws ++ [1 + v], st6, by simp, rfl, by rw [List.length_cons] at h3; simp; omega, fun y hy => ?_, ok6⟩
        rcases List.mem_append.mp hy with hy | hy
        · exact h4 y hy
        · rw [List.mem_singleton] at hy
          subst hy
          omega) (rngD 0 mm) [] (tpc ns st4 r1) ⟨[], st4, rfl, rfl, by rw [rngD_length]; simp, fun _ h => (by cases h), ok4⟩
    subst h1 h2
    exact ⟨ws, st5, e, by simpa using h3, h4, h5⟩
  obtain ⟨ws, st5, e5, lws, hws, ok5⟩ := e5
  refine seq_ex (sd1 := [some (.cst (ns.map D.int)), some (.loc 1), some (.int w), some (.int word), some (.int other), some (.tup ((bitL word w).map D.int)), some (.tup (ws.map D.int)), none, none, none, none, none, none, none, none]) (S1 := tpc ns st5 r1) ?_ ?_
  · have c : c62 (mm : Int) = true := by unfold c62; simp; omega
    simp only [mSet_ev, mF_ev, mLc_ev, mRng1_ev, mCons_ev, mCall_ev, mVar_ev, mC_ev, mNil_ev, bind_ok, List.getElem?_cons_succ, List.getElem?_cons_zero, e4, c, if_true, Int.toNat_natCast, e5, oTupF_ev, thenS_ok, List.set_cons_succ, List.set_cons_zero]
  -- words
  have e6 : ∃ (vs : List Int) (st6 : Nat × Int × Int), lcGo ⟨ws.map D.int, none⟩ [13] (gN 13) mYes (mCall m__law_next (mCons (mVar 1) (mCons (mBin oShl (mC (.int 1)) (mVar 13)) mNil)))
      [some (.cst (ns.map D.int)), some (.loc 1), some (.int w), some (.int word), some (.int other), some (.tup ((bitL word w).map D.int)), some (.tup (ws.map D.int)), none, none, none, none, none, none, none, none] (ws.map D.int) [] (tpc ns st5 r1) = .ok (vs.map D.int) (tpc ns st6 r1) ∧ vs.length = ws.length ∧
      (∀ (i : Nat) (h : i < vs.length) (h' : i < ws.length), 0 ≤ vs[i] ∧ vs[i] < 2 ^ (ws[i]).toNat) ∧ okst st6 := by
    obtain ⟨acc, S', e, vs, st6, h1, h2, h3, h4, h5⟩ := lcGo_run (it := ⟨ws.map D.int, none⟩) (ws := [13]) (g := gN 13) (t := mYes) (e := (mCall m__law_next (mCons (mVar 1) (mCons (mBin oShl (mC (.int 1)) (mVar 13)) mNil))))
      (sd := [some (.cst (ns.map D.int)), some (.loc 1), some (.int w), some (.int word), some (.int other), some (.tup ((bitL word w).map D.int)), some (.tup (ws.map D.int)), none, none, none, none, none, none, none, none])
      (fun r acc S => ∃ (vs : List Int) (st6 : Nat × Int × Int), acc = vs.map D.int ∧ S = tpc ns st6 r1 ∧ (vs.length ≤ ws.length ∧ r = (ws.drop vs.length).map D.int) ∧ (∀ (i : Nat) (h : i < vs.length) (h' : i < ws.length), 0 ≤ vs[i] ∧ vs[i] < 2 ^ (ws[i]).toNat) ∧ okst st6) (fun _ _ _ _ => trivial) (fun x r acc S ⟨vs, st6, h1, h2, ⟨h3, h3'⟩, h4, h5⟩ => by
        subst h1 h2
        have hlt : vs.length < ws.length := by
          rcases Nat.lt_or_ge vs.length ws.length with h | h
          · exact h
          · rw [List.drop_of_length_le h] at h3'; cases h3'
        rw [List.drop_eq_getElem_cons hlt, List.map_cons] at h3'
        injection h3' with hx hr
        subst hx hr
        have hwb := hws ws[vs.length] (List.getElem_mem hlt)
        obtain ⟨q, hq⟩ := Int.eq_ofNat_of_zero_le (show 0 ≤ ws[vs.length] by omega)
        have hq16 : q ≤ 16 := by omega
        obtain ⟨v, st7, e7, va, vb, ok7⟩ := next_ok (ns := ns) (many := 2 ^ q) h5 (pw q hq16).1 (pw q hq16).2 r1
        refine ⟨_, _, true, _, rfl, rfl, ?_⟩
        rw [if_pos rfl]
        refine ⟨.int v, tpc ns st7 r1, by simp [wipeD, hq, oShl, cP q (by omega), e7], by rw [sizeLine_eq, List.length_map]; omega, vs ++ [v], st7, by simp, rfl, ⟨by simp; omega, by simp⟩, fun i hi hi' => ?_, ok7⟩
        by_cases hlti : i < vs.length
        · rw [List.getElem_append_left hlti]
          exact h4 i hlti hi'
        · have : i = vs.length := by simp at hi; omega
          subst this
          simp only [List.getElem_append_right (Nat.le_refl _), Nat.sub_self, List.getElem_cons_zero]
          rw [hq, Int.toNat_natCast]
          exact ⟨va, vb⟩) (ws.map D.int) [] (tpc ns st5 r1) ⟨[], st5, rfl, rfl, ⟨by simp, by simp⟩, fun i hi => (by simp at hi), ok5⟩
    subst h1 h2
    refine ⟨vs, st6, e, ?_, h4, h5⟩
    have := congrArg List.length h3.2
    simp at this
    omega
  obtain ⟨vs, st6, e6, lvs, hvs, ok6⟩ := e6
  refine seq_ex (sd1 := [some (.cst (ns.map D.int)), some (.loc 1), some (.int w), some (.int word), some (.int other), some (.tup ((bitL word w).map D.int)), some (.tup (ws.map D.int)), some (.tup (vs.map D.int)), none, none, none, none, none, none, none]) (S1 := tpc ns st6 r1) ?_ ?_
  · simp only [mSet_ev, mF_ev, mLc_ev, mSeqI_ev, mVar_ev, bind_ok, List.getElem?_cons_succ, List.getElem?_cons_zero, e6, oTupF_ev, thenS_ok, List.set_cons_succ, List.set_cons_zero]
  -- row
  refine seq_ex (sd1 := [some (.cst (ns.map D.int)), some (.loc 1), some (.int w), some (.int word), some (.int other), some (.tup ((bitL word w).map D.int)), some (.tup (ws.map D.int)), some (.tup (vs.map D.int)), some (.tup []), none, none, none, none, none, none]) (S1 := tpc ns st6 r1) (by simp [hsl 0 (by omega)]) ?_
  have wn : ∀ x ∈ ws.map Int.toNat, x ≤ 16 := fun x hx => by
    obtain ⟨y, hy, rfl⟩ := List.mem_map.mp hx
    have := hws y hy
    omega
  obtain ⟨sd', S', e7, kk, hsd, hS⟩ := forGo_rng (g := gN 9) (b := mSet 8 (mBin oAdd (mVar 8) (mF oTupF (mLc (mRng1 (mCons (mBin oIx (mVar 6) (mVar 9)) mNil)) [14] (gN 14) mYes (mBin oAnd (mBin oShr (mBin oIx (mVar 7) (mVar 9)) (mVar 14)) (mC (.int 1))))))) (lo := 0) (n := vs.length)
    (fun i sd S' => ∃ k, sd = [some (.cst (ns.map D.int)), some (.loc 1), some (.int w), some (.int word), some (.int other), some (.tup ((bitL word w).map D.int)), some (.tup (ws.map D.int)), some (.tup (vs.map D.int)), some (.tup ((joinL (vs.take i) ((ws.take i).map Int.toNat)).map D.int)), k, none, none, none, none, none] ∧ tpc ns st6 r1 = S')
    (fun i sd S' hi ⟨k, h1, h2⟩ => by
      subst h1 h2
      have hi' : i < ws.length := by omega
      have hwb := hws ws[i] (List.getElem_mem hi')
      obtain ⟨q, hq⟩ := Int.eq_ofNat_of_zero_le (show 0 ≤ ws[i] by omega)
      have hq' : ws[i].toNat = q := by omega
      have hq16 : q ≤ 16 := by omega
      refine ⟨_, _, _, _, rfl, ?_, some (.int (0 + (i : Nat))), rfl, rfl⟩
      have e0 : joinL (vs.take (i + 1)) ((ws.take (i + 1)).map Int.toNat) = joinL (vs.take i) ((ws.take i).map Int.toNat) ++ bitL vs[i] q := by
        rw [List.take_succ_eq_append_getElem hi, List.take_succ_eq_append_getElem hi', List.map_append, List.map_cons, List.map_nil, hq']
        exact joinL_snoc _ _ _ _ (by simp; omega)
      have hz : (joinL (vs.take i) ((ws.take i).map Int.toNat)).length + (bitL vs[i] q).length ≤ sizeLine := by
        have := joinL_length (vs.take i) ((ws.take i).map Int.toNat) (fun x hx => by
          obtain ⟨y, hy, rfl⟩ := List.mem_map.mp hx
          have := hws y (List.mem_of_mem_take hy)
          omega)
        rw [List.length_take] at this
        rw [sizeLine_eq, bitL_length]
        omega
      have g1 : (vs.map D.int)[i]? = some (.int vs[i]) := by simp [hi]
      have g2 : (ws.map D.int)[i]? = some (.int (q : Int)) := by simp [hi', hq]
      have c : c62 (q : Int) = true := by unfold c62; simp; omega
      simp only [mSet_ev, mBin_ev, mVar_ev, mF_ev, mLc_ev, mRng1_ev, mCons_ev, mNil_ev, bind_ok, List.getElem?_cons_succ, List.getElem?_cons_zero, List.set_cons_succ, List.set_cons_zero, oIx_tup, Int.zero_add, atI_nat', g2, optR_some, c, if_true, Int.toNat_natCast]
      rw [lcGo_rng (fun j => .int (vs[i] / 2 ^ j % 2)) (sl7 (by omega)) (fun j hj => ⟨_, rfl, rfl, by simp [wipeD, atI_nat', hi, oShr, oAnd, bitAnd_m1]⟩)]
      have eb : (List.range q).map (fun j => D.int (vs[i] / 2 ^ j % 2)) = (bitL vs[i] q).map D.int := by simp [bitL]
      simp only [eb, bind_ok, oTupF_ev, oAdd_tup, List.length_map, hz, if_true, thenS_ok, e0, List.map_append]) (sd := [some (.cst (ns.map D.int)), some (.loc 1), some (.int w), some (.int word), some (.int other), some (.tup ((bitL word w).map D.int)), some (.tup (ws.map D.int)), some (.tup (vs.map D.int)), some (.tup []), none, none, none, none, none, none]) (S := tpc ns st6 r1) ⟨none, by simp [joinL], rfl⟩
  subst hS
  have e9 : ws.take vs.length = ws := by rw [lvs, List.take_length]
  rw [List.take_length, e9] at hsd
  refine seq_ex (sd1 := sd') (S1 := tpc ns st6 r1) ?_ ?_
  · have c : c62 (vs.length : Int) = true := by unfold c62; simp; omega
    simp only [mFor_ev, mRng1_ev, mCons_ev, mB_ev, mVar_ev, mNil_ev, bind_ok, List.getElem?_cons_succ, List.getElem?_cons_zero, oLen_tup, List.length_map, c, if_true, Int.toNat_natCast, thenS_ok, e7]
  subst hsd
  generalize tpc ns st6 r1 = S9
  exact law_rest S9 ns w w1 w16 word other wa wb ws vs kk lvs (by omega) hws hvs
end K01

namespace K01
open PySem PySem.Spec PyProof.Rows L2 Fx
noncomputable def m_law : List D → List Cell → Res D := mLaw b_law 15
theorem law_true : ∀ ns : List Int, ns.length ≤ 63 → ∃ S, m_law [.cst (ns.map D.int)] [] = .ok (.bl true) S := fun ns _ => by
  obtain ⟨S1, e⟩ := law_body ns
  exact mLaw_true e
theorem f_same {P : Program} {w : World} {K : PySem.W.Frag} {mg : Str → Option Value} {base : Heap} (GG : GK K mg) : ∀ n, FnM P w K mg base (n + 1) "_law_same" 2 (m_same n)
  | 0 => (FnM.none (ps := ["told", "due"]) GG.f__law_same sc__law_same).imp fun ds S => .inl (by
    unfold m_same
    rw [if_neg]
    rintro ⟨a, b, _, h⟩
    exact h)
  | n + 1 => w__law_same GG (Nat.zero_le _) (f_same GG n) fun ds S h => ref__law_same n ds S h
theorem ok_law {P : Program} {w : World} {K : PySem.W.Frag} {mg : Str → Option Value} {base : Heap} (GG : GK K mg) {f : Addr} {fd : FuncData} (F : Fun K "law" "law" (topS 15) f fd) : FnOk P w K mg base (L2.CX P w) 11 f fd ["script"] (spM mg K 1 m_law) := by
  have h_is_count : FnM P w K mg base 1 "is_count" 1 m_is_count := w_is_count GG ref_is_count
  have h_is_width : FnM P w K mg base 2 "is_width" 1 m_is_width := w_is_width GG h_is_count ref_is_width
  have h_is_word : FnM P w K mg base 2 "is_word" 2 m_is_word := w_is_word GG h_is_count ref_is_word
  have h_cut_word : FnM P w K mg base 1 "cut_word" 2 m_cut_word := w_cut_word GG ref_cut_word
  have h_bits_of : FnM P w K mg base 1 "bits_of" 2 m_bits_of := w_bits_of GG ref_bits_of
  have h_word_of : FnM P w K mg base 1 "word_of" 1 m_word_of := w_word_of GG ref_word_of
  have h_is_bits : FnM P w K mg base 2 "is_bits" 2 m_is_bits := w_is_bits GG h_is_count ref_is_bits
  have h_is_odd_word : FnM P w K mg base 1 "is_odd_word" 1 m_is_odd_word := w_is_odd_word GG ref_is_odd_word
  have h_split_words : FnM P w K mg base 2 "split_words" 2 m_split_words := w_split_words GG h_word_of ref_split_words
  have h_joined_bits : FnM P w K mg base 2 "joined_bits" 2 m_joined_bits := w_joined_bits GG h_bits_of ref_joined_bits
  have h__law_next : FnM P w K mg base 1 "_law_next" 2 m__law_next := w__law_next GG ref__law_next
  exact w_law GG h__law_next (f_same GG 9) h_bits_of h_cut_word h_is_bits h_is_count h_is_odd_word h_is_width h_is_word h_joined_bits h_split_words h_word_of F fun ds S _ => mLaw_ref ds S
end K01

namespace K01
open PySem PySem.Spec PyProof.Rows L2 Fx
/-! ### what the top has written -/
theorem gk_mk {K : PySem.W.Frag} {h : Heap} {mg : Str → Option Value} (X : K.In h) (G : h.Ns mainGlobals mg) {f0 : Addr} {od0 an0 : Option Addr} {sl0 : Array (Option Value)} {oc0 kV0 dc0 pm0 cd0 ct0 : Value} {f1 : Addr} {od1 an1 : Option Addr} {sl1 : Array (Option Value)} {oc1 kV1 dc1 pm1 cd1 ct1 : Value} {f2 : Addr} {od2 an2 : Option Addr} {sl2 : Array (Option Value)} {oc2 kV2 dc2 pm2 cd2 ct2 : Value} {f3 : Addr} {od3 an3 : Option Addr} {sl3 : Array (Option Value)} {oc3 kV3 dc3 pm3 cd3 ct3 : Value} {f4 : Addr} {od4 an4 : Option Addr} {sl4 : Array (Option Value)} {oc4 kV4 dc4 pm4 cd4 ct4 : Value} {f5 : Addr} {od5 an5 : Option Addr} {sl5 : Array (Option Value)} {oc5 kV5 dc5 pm5 cd5 ct5 : Value} {f6 : Addr} {od6 an6 : Option Addr} {sl6 : Array (Option Value)} {oc6 kV6 dc6 pm6 cd6 ct6 : Value} {f7 : Addr} {od7 an7 : Option Addr} {sl7 : Array (Option Value)} {oc7 kV7 dc7 pm7 cd7 ct7 : Value} {f8 : Addr} {od8 an8 : Option Addr} {sl8 : Array (Option Value)} {oc8 kV8 dc8 pm8 cd8 ct8 : Value} {f9 : Addr} {od9 an9 : Option Addr} {sl9 : Array (Option Value)} {oc9 kV9 dc9 pm9 cd9 ct9 : Value} {f10 : Addr} {od10 an10 : Option Addr} {sl10 : Array (Option Value)} {oc10 kV10 dc10 pm10 cd10 ct10 : Value} {f11 : Addr} {od11 an11 : Option Addr} {sl11 : Array (Option Value)} {oc11 kV11 dc11 pm11 cd11 ct11 : Value} {f12 : Addr} {od12 an12 : Option Addr} {sl12 : Array (Option Value)} {oc12 kV12 dc12 pm12 cd12 ct12 : Value} {t0 : Tok}
    (a0 : PySem.W.nsIn K mainGlobals "is_count" = some (some (.ref f0))) (l0 : K.lookup f0 = some ⟨oc0, od0, .func (PySem.W.fnOf "is_count" "is_count" (defArgs (topS 2)) (defBody (topS 2)) (defScope (topS 2)) .none kV0 dc0 pm0 an0 cd0 ct0), sl0⟩) (c0 : PySem.W.codeIn K cd0 "is_count" = true) (k0 : PySem.W.keepIn K (.ref f0) = true)
    (a1 : PySem.W.nsIn K mainGlobals "is_width" = some (some (.ref f1))) (l1 : K.lookup f1 = some ⟨oc1, od1, .func (PySem.W.fnOf "is_width" "is_width" (defArgs (topS 3)) (defBody (topS 3)) (defScope (topS 3)) .none kV1 dc1 pm1 an1 cd1 ct1), sl1⟩) (c1 : PySem.W.codeIn K cd1 "is_width" = true) (k1 : PySem.W.keepIn K (.ref f1) = true)
    (a2 : PySem.W.nsIn K mainGlobals "is_word" = some (some (.ref f2))) (l2 : K.lookup f2 = some ⟨oc2, od2, .func (PySem.W.fnOf "is_word" "is_word" (defArgs (topS 4)) (defBody (topS 4)) (defScope (topS 4)) .none kV2 dc2 pm2 an2 cd2 ct2), sl2⟩) (c2 : PySem.W.codeIn K cd2 "is_word" = true) (k2 : PySem.W.keepIn K (.ref f2) = true)
    (a3 : PySem.W.nsIn K mainGlobals "cut_word" = some (some (.ref f3))) (l3 : K.lookup f3 = some ⟨oc3, od3, .func (PySem.W.fnOf "cut_word" "cut_word" (defArgs (topS 5)) (defBody (topS 5)) (defScope (topS 5)) .none kV3 dc3 pm3 an3 cd3 ct3), sl3⟩) (c3 : PySem.W.codeIn K cd3 "cut_word" = true) (k3 : PySem.W.keepIn K (.ref f3) = true)
    (a4 : PySem.W.nsIn K mainGlobals "bits_of" = some (some (.ref f4))) (l4 : K.lookup f4 = some ⟨oc4, od4, .func (PySem.W.fnOf "bits_of" "bits_of" (defArgs (topS 6)) (defBody (topS 6)) (defScope (topS 6)) .none kV4 dc4 pm4 an4 cd4 ct4), sl4⟩) (c4 : PySem.W.codeIn K cd4 "bits_of" = true) (k4 : PySem.W.keepIn K (.ref f4) = true)
    (a5 : PySem.W.nsIn K mainGlobals "word_of" = some (some (.ref f5))) (l5 : K.lookup f5 = some ⟨oc5, od5, .func (PySem.W.fnOf "word_of" "word_of" (defArgs (topS 7)) (defBody (topS 7)) (defScope (topS 7)) .none kV5 dc5 pm5 an5 cd5 ct5), sl5⟩) (c5 : PySem.W.codeIn K cd5 "word_of" = true) (k5 : PySem.W.keepIn K (.ref f5) = true)
    (a6 : PySem.W.nsIn K mainGlobals "is_bits" = some (some (.ref f6))) (l6 : K.lookup f6 = some ⟨oc6, od6, .func (PySem.W.fnOf "is_bits" "is_bits" (defArgs (topS 8)) (defBody (topS 8)) (defScope (topS 8)) .none kV6 dc6 pm6 an6 cd6 ct6), sl6⟩) (c6 : PySem.W.codeIn K cd6 "is_bits" = true) (k6 : PySem.W.keepIn K (.ref f6) = true)
    (a7 : PySem.W.nsIn K mainGlobals "is_odd_word" = some (some (.ref f7))) (l7 : K.lookup f7 = some ⟨oc7, od7, .func (PySem.W.fnOf "is_odd_word" "is_odd_word" (defArgs (topS 9)) (defBody (topS 9)) (defScope (topS 9)) .none kV7 dc7 pm7 an7 cd7 ct7), sl7⟩) (c7 : PySem.W.codeIn K cd7 "is_odd_word" = true) (k7 : PySem.W.keepIn K (.ref f7) = true)
    (a8 : PySem.W.nsIn K mainGlobals "split_words" = some (some (.ref f8))) (l8 : K.lookup f8 = some ⟨oc8, od8, .func (PySem.W.fnOf "split_words" "split_words" (defArgs (topS 10)) (defBody (topS 10)) (defScope (topS 10)) .none kV8 dc8 pm8 an8 cd8 ct8), sl8⟩) (c8 : PySem.W.codeIn K cd8 "split_words" = true) (k8 : PySem.W.keepIn K (.ref f8) = true)
    (a9 : PySem.W.nsIn K mainGlobals "joined_bits" = some (some (.ref f9))) (l9 : K.lookup f9 = some ⟨oc9, od9, .func (PySem.W.fnOf "joined_bits" "joined_bits" (defArgs (topS 11)) (defBody (topS 11)) (defScope (topS 11)) .none kV9 dc9 pm9 an9 cd9 ct9), sl9⟩) (c9 : PySem.W.codeIn K cd9 "joined_bits" = true) (k9 : PySem.W.keepIn K (.ref f9) = true)
    (a10 : PySem.W.nsIn K mainGlobals "_law_next" = some (some (.ref f10))) (l10 : K.lookup f10 = some ⟨oc10, od10, .func (PySem.W.fnOf "_law_next" "_law_next" (defArgs (topS 13)) (defBody (topS 13)) (defScope (topS 13)) .none kV10 dc10 pm10 an10 cd10 ct10), sl10⟩) (c10 : PySem.W.codeIn K cd10 "_law_next" = true) (k10 : PySem.W.keepIn K (.ref f10) = true)
    (a11 : PySem.W.nsIn K mainGlobals "_law_same" = some (some (.ref f11))) (l11 : K.lookup f11 = some ⟨oc11, od11, .func (PySem.W.fnOf "_law_same" "_law_same" (defArgs (topS 14)) (defBody (topS 14)) (defScope (topS 14)) .none kV11 dc11 pm11 an11 cd11 ct11), sl11⟩) (c11 : PySem.W.codeIn K cd11 "_law_same" = true) (k11 : PySem.W.keepIn K (.ref f11) = true)
    (a12 : PySem.W.nsIn K mainGlobals "law" = some (some (.ref f12))) (l12 : K.lookup f12 = some ⟨oc12, od12, .func (PySem.W.fnOf "law" "law" (defArgs (topS 15)) (defBody (topS 15)) (defScope (topS 15)) .none kV12 dc12 pm12 an12 cd12 ct12), sl12⟩) (c12 : PySem.W.codeIn K cd12 "law" = true) (k12 : PySem.W.keepIn K (.ref f12) = true)
    (z0 : PySem.W.nsIn K mainGlobals "abs" = some none)
    (z1 : PySem.W.nsIn K mainGlobals "all" = some none)
    (z2 : PySem.W.nsIn K mainGlobals "bool" = some none)
    (z3 : PySem.W.nsIn K mainGlobals "int" = some none)
    (z4 : PySem.W.nsIn K mainGlobals "isinstance" = some none)
    (z5 : PySem.W.nsIn K mainGlobals "len" = some none)
    (z6 : PySem.W.nsIn K mainGlobals "list" = some none)
    (z7 : PySem.W.nsIn K mainGlobals "range" = some none)
    (z8 : PySem.W.nsIn K mainGlobals "str" = some none)
    (z9 : PySem.W.nsIn K mainGlobals "sum" = some none)
    (z10 : PySem.W.nsIn K mainGlobals "tuple" = some none)
    (y0 : PySem.W.nsIn K mainGlobals "WIDEST" = some (some (.int 16 t0))) : GK K mg :=
  ⟨PySem.W.mg_none_of X G z0,
   PySem.W.mg_none_of X G z1,
   PySem.W.mg_none_of X G z2,
   PySem.W.mg_none_of X G z3,
   PySem.W.mg_none_of X G z4,
   PySem.W.mg_none_of X G z5,
   PySem.W.mg_none_of X G z6,
   PySem.W.mg_none_of X G z7,
   PySem.W.mg_none_of X G z8,
   PySem.W.mg_none_of X G z9,
   PySem.W.mg_none_of X G z10,
   isFn_mk X G a0 l0 c0 k0 (fun _ _ _ _ _ _ us hl => match us, hl with | [_], _ => rfl),
   isFn_mk X G a1 l1 c1 k1 (fun _ _ _ _ _ _ us hl => match us, hl with | [_], _ => rfl),
   isFn_mk X G a2 l2 c2 k2 (fun _ _ _ _ _ _ us hl => match us, hl with | [_, _], _ => rfl),
   isFn_mk X G a3 l3 c3 k3 (fun _ _ _ _ _ _ us hl => match us, hl with | [_, _], _ => rfl),
   isFn_mk X G a4 l4 c4 k4 (fun _ _ _ _ _ _ us hl => match us, hl with | [_, _], _ => rfl),
   isFn_mk X G a5 l5 c5 k5 (fun _ _ _ _ _ _ us hl => match us, hl with | [_], _ => rfl),
   isFn_mk X G a6 l6 c6 k6 (fun _ _ _ _ _ _ us hl => match us, hl with | [_, _], _ => rfl),
   isFn_mk X G a7 l7 c7 k7 (fun _ _ _ _ _ _ us hl => match us, hl with | [_], _ => rfl),
   isFn_mk X G a8 l8 c8 k8 (fun _ _ _ _ _ _ us hl => match us, hl with | [_, _], _ => rfl),
   isFn_mk X G a9 l9 c9 k9 (fun _ _ _ _ _ _ us hl => match us, hl with | [_, _], _ => rfl),
   isFn_mk X G a10 l10 c10 k10 (fun _ _ _ _ _ _ us hl => match us, hl with | [_, _], _ => rfl),
   isFn_mk X G a11 l11 c11 k11 (fun _ _ _ _ _ _ us hl => match us, hl with | [_, _], _ => rfl),
   isFn_mk X G a12 l12 c12 k12 (fun _ _ _ _ _ _ us hl => match us, hl with | [_], _ => rfl),
   ⟨t0, PySem.W.mg_of X G y0⟩⟩
theorem all_mk {l : PySem.W.OpenLaw} {w : World} {K : PySem.W.Frag} {h : Heap} {mg : Str → Option Value} {fa : Addr} (X : K.In h) (G : h.Ns mainGlobals mg) (hfa : mg "law" = some (.ref fa)) {f0 : Addr} {od0 an0 : Option Addr} {sl0 : Array (Option Value)} {oc0 kV0 dc0 pm0 cd0 ct0 : Value} {f1 : Addr} {od1 an1 : Option Addr} {sl1 : Array (Option Value)} {oc1 kV1 dc1 pm1 cd1 ct1 : Value} {f2 : Addr} {od2 an2 : Option Addr} {sl2 : Array (Option Value)} {oc2 kV2 dc2 pm2 cd2 ct2 : Value} {f3 : Addr} {od3 an3 : Option Addr} {sl3 : Array (Option Value)} {oc3 kV3 dc3 pm3 cd3 ct3 : Value} {f4 : Addr} {od4 an4 : Option Addr} {sl4 : Array (Option Value)} {oc4 kV4 dc4 pm4 cd4 ct4 : Value} {f5 : Addr} {od5 an5 : Option Addr} {sl5 : Array (Option Value)} {oc5 kV5 dc5 pm5 cd5 ct5 : Value} {f6 : Addr} {od6 an6 : Option Addr} {sl6 : Array (Option Value)} {oc6 kV6 dc6 pm6 cd6 ct6 : Value} {f7 : Addr} {od7 an7 : Option Addr} {sl7 : Array (Option Value)} {oc7 kV7 dc7 pm7 cd7 ct7 : Value} {f8 : Addr} {od8 an8 : Option Addr} {sl8 : Array (Option Value)} {oc8 kV8 dc8 pm8 cd8 ct8 : Value} {f9 : Addr} {od9 an9 : Option Addr} {sl9 : Array (Option Value)} {oc9 kV9 dc9 pm9 cd9 ct9 : Value} {f10 : Addr} {od10 an10 : Option Addr} {sl10 : Array (Option Value)} {oc10 kV10 dc10 pm10 cd10 ct10 : Value} {f11 : Addr} {od11 an11 : Option Addr} {sl11 : Array (Option Value)} {oc11 kV11 dc11 pm11 cd11 ct11 : Value} {f12 : Addr} {od12 an12 : Option Addr} {sl12 : Array (Option Value)} {oc12 kV12 dc12 pm12 cd12 ct12 : Value} {t0 : Tok}
    (a0 : PySem.W.nsIn K mainGlobals "is_count" = some (some (.ref f0))) (l0 : K.lookup f0 = some ⟨oc0, od0, .func (PySem.W.fnOf "is_count" "is_count" (defArgs (topS 2)) (defBody (topS 2)) (defScope (topS 2)) .none kV0 dc0 pm0 an0 cd0 ct0), sl0⟩) (c0 : PySem.W.codeIn K cd0 "is_count" = true) (k0 : PySem.W.keepIn K (.ref f0) = true)
    (a1 : PySem.W.nsIn K mainGlobals "is_width" = some (some (.ref f1))) (l1 : K.lookup f1 = some ⟨oc1, od1, .func (PySem.W.fnOf "is_width" "is_width" (defArgs (topS 3)) (defBody (topS 3)) (defScope (topS 3)) .none kV1 dc1 pm1 an1 cd1 ct1), sl1⟩) (c1 : PySem.W.codeIn K cd1 "is_width" = true) (k1 : PySem.W.keepIn K (.ref f1) = true)
    (a2 : PySem.W.nsIn K mainGlobals "is_word" = some (some (.ref f2))) (l2 : K.lookup f2 = some ⟨oc2, od2, .func (PySem.W.fnOf "is_word" "is_word" (defArgs (topS 4)) (defBody (topS 4)) (defScope (topS 4)) .none kV2 dc2 pm2 an2 cd2 ct2), sl2⟩) (c2 : PySem.W.codeIn K cd2 "is_word" = true) (k2 : PySem.W.keepIn K (.ref f2) = true)
    (a3 : PySem.W.nsIn K mainGlobals "cut_word" = some (some (.ref f3))) (l3 : K.lookup f3 = some ⟨oc3, od3, .func (PySem.W.fnOf "cut_word" "cut_word" (defArgs (topS 5)) (defBody (topS 5)) (defScope (topS 5)) .none kV3 dc3 pm3 an3 cd3 ct3), sl3⟩) (c3 : PySem.W.codeIn K cd3 "cut_word" = true) (k3 : PySem.W.keepIn K (.ref f3) = true)
    (a4 : PySem.W.nsIn K mainGlobals "bits_of" = some (some (.ref f4))) (l4 : K.lookup f4 = some ⟨oc4, od4, .func (PySem.W.fnOf "bits_of" "bits_of" (defArgs (topS 6)) (defBody (topS 6)) (defScope (topS 6)) .none kV4 dc4 pm4 an4 cd4 ct4), sl4⟩) (c4 : PySem.W.codeIn K cd4 "bits_of" = true) (k4 : PySem.W.keepIn K (.ref f4) = true)
    (a5 : PySem.W.nsIn K mainGlobals "word_of" = some (some (.ref f5))) (l5 : K.lookup f5 = some ⟨oc5, od5, .func (PySem.W.fnOf "word_of" "word_of" (defArgs (topS 7)) (defBody (topS 7)) (defScope (topS 7)) .none kV5 dc5 pm5 an5 cd5 ct5), sl5⟩) (c5 : PySem.W.codeIn K cd5 "word_of" = true) (k5 : PySem.W.keepIn K (.ref f5) = true)
    (a6 : PySem.W.nsIn K mainGlobals "is_bits" = some (some (.ref f6))) (l6 : K.lookup f6 = some ⟨oc6, od6, .func (PySem.W.fnOf "is_bits" "is_bits" (defArgs (topS 8)) (defBody (topS 8)) (defScope (topS 8)) .none kV6 dc6 pm6 an6 cd6 ct6), sl6⟩) (c6 : PySem.W.codeIn K cd6 "is_bits" = true) (k6 : PySem.W.keepIn K (.ref f6) = true)
    (a7 : PySem.W.nsIn K mainGlobals "is_odd_word" = some (some (.ref f7))) (l7 : K.lookup f7 = some ⟨oc7, od7, .func (PySem.W.fnOf "is_odd_word" "is_odd_word" (defArgs (topS 9)) (defBody (topS 9)) (defScope (topS 9)) .none kV7 dc7 pm7 an7 cd7 ct7), sl7⟩) (c7 : PySem.W.codeIn K cd7 "is_odd_word" = true) (k7 : PySem.W.keepIn K (.ref f7) = true)
    (a8 : PySem.W.nsIn K mainGlobals "split_words" = some (some (.ref f8))) (l8 : K.lookup f8 = some ⟨oc8, od8, .func (PySem.W.fnOf "split_words" "split_words" (defArgs (topS 10)) (defBody (topS 10)) (defScope (topS 10)) .none kV8 dc8 pm8 an8 cd8 ct8), sl8⟩) (c8 : PySem.W.codeIn K cd8 "split_words" = true) (k8 : PySem.W.keepIn K (.ref f8) = true)
    (a9 : PySem.W.nsIn K mainGlobals "joined_bits" = some (some (.ref f9))) (l9 : K.lookup f9 = some ⟨oc9, od9, .func (PySem.W.fnOf "joined_bits" "joined_bits" (defArgs (topS 11)) (defBody (topS 11)) (defScope (topS 11)) .none kV9 dc9 pm9 an9 cd9 ct9), sl9⟩) (c9 : PySem.W.codeIn K cd9 "joined_bits" = true) (k9 : PySem.W.keepIn K (.ref f9) = true)
    (a10 : PySem.W.nsIn K mainGlobals "_law_next" = some (some (.ref f10))) (l10 : K.lookup f10 = some ⟨oc10, od10, .func (PySem.W.fnOf "_law_next" "_law_next" (defArgs (topS 13)) (defBody (topS 13)) (defScope (topS 13)) .none kV10 dc10 pm10 an10 cd10 ct10), sl10⟩) (c10 : PySem.W.codeIn K cd10 "_law_next" = true) (k10 : PySem.W.keepIn K (.ref f10) = true)
    (a11 : PySem.W.nsIn K mainGlobals "_law_same" = some (some (.ref f11))) (l11 : K.lookup f11 = some ⟨oc11, od11, .func (PySem.W.fnOf "_law_same" "_law_same" (defArgs (topS 14)) (defBody (topS 14)) (defScope (topS 14)) .none kV11 dc11 pm11 an11 cd11 ct11), sl11⟩) (c11 : PySem.W.codeIn K cd11 "_law_same" = true) (k11 : PySem.W.keepIn K (.ref f11) = true)
    (a12 : PySem.W.nsIn K mainGlobals "law" = some (some (.ref f12))) (l12 : K.lookup f12 = some ⟨oc12, od12, .func (PySem.W.fnOf "law" "law" (defArgs (topS 15)) (defBody (topS 15)) (defScope (topS 15)) .none kV12 dc12 pm12 an12 cd12 ct12), sl12⟩) (c12 : PySem.W.codeIn K cd12 "law" = true) (k12 : PySem.W.keepIn K (.ref f12) = true)
    (z0 : PySem.W.nsIn K mainGlobals "abs" = some none)
    (z1 : PySem.W.nsIn K mainGlobals "all" = some none)
    (z2 : PySem.W.nsIn K mainGlobals "bool" = some none)
    (z3 : PySem.W.nsIn K mainGlobals "int" = some none)
    (z4 : PySem.W.nsIn K mainGlobals "isinstance" = some none)
    (z5 : PySem.W.nsIn K mainGlobals "len" = some none)
    (z6 : PySem.W.nsIn K mainGlobals "list" = some none)
    (z7 : PySem.W.nsIn K mainGlobals "range" = some none)
    (z8 : PySem.W.nsIn K mainGlobals "str" = some none)
    (z9 : PySem.W.nsIn K mainGlobals "sum" = some none)
    (z10 : PySem.W.nsIn K mainGlobals "tuple" = some none)
    (y0 : PySem.W.nsIn K mainGlobals "WIDEST" = some (some (.int 16 t0))) :
    ∃ fd : FuncData, (∀ (s : Shared) (v : Value), BindsTo s fd ⟨[v], []⟩ [("script", v)]) ∧ ∀ base : Heap, K.In base → base.Ns mainGlobals mg → FnOk l.prog w K mg base (L2.CX l.prog w) 11 fa fd ["script"] (spLaw K) := by
  have e := hfa.symm.trans (PySem.W.mg_of X G a12)
  cases e
  have GG : GK K mg := gk_mk X G a0 l0 c0 k0 a1 l1 c1 k1 a2 l2 c2 k2 a3 l3 c3 k3 a4 l4 c4 k4 a5 l5 c5 k5 a6 l6 c6 k6 a7 l7 c7 k7 a8 l8 c8 k8 a9 l9 c9 k9 a10 l10 c10 k10 a11 l11 c11 k11 a12 l12 c12 k12 z0 z1 z2 z3 z4 z5 z6 z7 z8 z9 z10 y0
  refine ⟨_, fun s v => .of_eq rfl, fun base _ _ => FnOk.imp (ok_law GG (fun_mk (st := s_law) l12 c12 k12)) (law_imp law_true)⟩

end K01
open PySem PySem.W PyProof.Rows
set_option maxHeartbeats 0 in
theorem PySem.Challenge.cw_chiptrue_k01_whole_words_and_bits_holds : PySem.Challenge.rw_chiptrue_k01_whole_words_and_bits.Holds := by
  w_on; o_law; k_head; (case hw => w_witness2)
  k_fill
  refine L2.walk_of (l := PySem.Challenge.rw_chiptrue_k01_whole_words_and_bits) (n := 63) (k := 11) (x := "script") (CX := fun w => L2.CX PySem.Challenge.rw_chiptrue_k01_whole_words_and_bits.prog w) (sp := fun w => Fx.spLaw _) rfl (by decide) rfl ⟨rfl, by decide, by decide⟩ (fun w h Y => PySem.W.kIn_of Y) ?F (fun _ _ a ns hl hO hS => ⟨a, ns, rfl, hO, hS, hl, fun _ => rfl⟩) (fun w H s e s' h => Fx.hCX H s e s' h)
  case F =>
    intro w mg fa h KX G hmg
    refine' K01.all_mk (l := PySem.Challenge.rw_chiptrue_k01_whole_words_and_bits) KX G hmg ?a0 ?l0 ?c0 ?k0 ?a1 ?l1 ?c1 ?k1 ?a2 ?l2 ?c2 ?k2 ?a3 ?l3 ?c3 ?k3 ?a4 ?l4 ?c4 ?k4 ?a5 ?l5 ?c5 ?k5 ?a6 ?l6 ?c6 ?k6 ?a7 ?l7 ?c7 ?k7 ?a8 ?l8 ?c8 ?k8 ?a9 ?l9 ?c9 ?k9 ?a10 ?l10 ?c10 ?k10 ?a11 ?l11 ?c11 ?k11 ?a12 ?l12 ?c12 ?k12 ?z0 ?z1 ?z2 ?z3 ?z4 ?z5 ?z6 ?z7 ?z8 ?z9 ?z10 ?y0
    (case a0 => k_is); (case l0 => k_is); (case c0 => k_is); (case k0 => k_is); (case a1 => k_is); (case l1 => k_is); (case c1 => k_is); (case k1 => k_is); (case a2 => k_is); (case l2 => k_is); (case c2 => k_is); (case k2 => k_is); (case a3 => k_is); (case l3 => k_is); (case c3 => k_is); (case k3 => k_is); (case a4 => k_is); (case l4 => k_is); (case c4 => k_is); (case k4 => k_is); (case a5 => k_is); (case l5 => k_is); (case c5 => k_is); (case k5 => k_is); (case a6 => k_is); (case l6 => k_is); (case c6 => k_is); (case k6 => k_is); (case a7 => k_is); (case l7 => k_is); (case c7 => k_is); (case k7 => k_is); (case a8 => k_is); (case l8 => k_is); (case c8 => k_is); (case k8 => k_is); (case a9 => k_is); (case l9 => k_is); (case c9 => k_is); (case k9 => k_is); (case a10 => k_is); (case l10 => k_is); (case c10 => k_is); (case k10 => k_is); (case a11 => k_is); (case l11 => k_is); (case c11 => k_is); (case k11 => k_is); (case a12 => k_is); (case l12 => k_is); (case c12 => k_is); (case k12 => k_is); (case z0 => k_is); (case z1 => k_is); (case z2 => k_is); (case z3 => k_is); (case z4 => k_is); (case z5 => k_is); (case z6 => k_is); (case z7 => k_is); (case z8 => k_is); (case z9 => k_is); (case z10 => k_is); (case y0 => k_is)
