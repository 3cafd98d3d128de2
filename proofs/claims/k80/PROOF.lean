import PyProof.Rows.All
import HandS.ForMost
import HandS.ForExc
import HandS.Conv
import HandS.Wide
import HandS.TupAny
import HandS.IsInst
import HandS.CallSlots
import HandS.Flow
import HandS.WideBits
import KE.KTupSum
import HandS.Iter
import HandS.Style
import HandS.ExcInit
import HandS.ExcField
import HandS.ExcOwn
import HandS.TryMany
import HandS.ClsMeth
import HandS.More
import KE.KExcSuper
import HandS.Text
import HandS.RaiseMore
import HandS.Dict
import HandS.WordsDict
import PyProof.EqKinds
import HandS.SetBool
import PyProof.DictTable
import KE.KBits
import KE.BitLaws
import KE.IntTextLaws
import HandS.Codes
import PySem.Challenge.RW_chiptrue_k80_whole_values_as_texts
set_option Elab.async false
set_option linter.all false
set_option maxRecDepth 100000
set_option maxHeartbeats 4000000
namespace Fx
abbrev St := L2.St
open PySem PySem.Spec PyProof.Rows L2

/-! ### data -/
inductive D where
  | non | bl (b : Bool) | int (i : Int) | str (x : List Nat) | tup (l : List D) | cst (l : List D) | loc (n : Nat) | adr (a : Nat)
inductive Cell where
  | lst (xs : List D) | dic (kvs : List (Key × D)) | ins (c : String) (fs : List (String × D))
structure Ex where
  cls : String
  fs : List (String × D)
inductive Res (α : Type) where
  | ok (a : α) (S : List Cell) | exc (x : Ex) (S : List Cell) | stk
def Res.bind {α β : Type} (r : Res α) (f : α → List Cell → Res β) : Res β := match r with
  | .ok a S => f a S
  | .exc x S => .exc x S
  | .stk => .stk
abbrev Mu := List Addr
/-- a list that nobody changes: known to the object, or the module's own -/
def SqF (K : PySem.W.Frag) (H : Hp) (a : Addr) (xs : List V) : Prop :=
  (∃ o, H a = some (.frz o (.lst xs))) ∨
    ∃ (o : Obj) (its : Array Value) (n : Nat), K.lookup a = some o ∧ o.cls = .type "list" ∧ o.dict = none ∧ o.data = .seq its n ∧ its.size ≤ sizeLine ∧ Vals xs its.toList
theorem SqF.sq {K : PySem.W.Frag} {H : Hp} {a : Addr} {xs : List V} (h : SqF K H a xs) : SqL K H a xs := by
  rcases h with ⟨o, h⟩ | h
  · exact .inl (.inr ⟨o, h⟩)
  · exact .inr h

mutual
inductive RepV (K : PySem.W.Frag) (μ : Mu) (H : Hp) : D → V → Prop
  | non : RepV K μ H .non .non
  | bl (b : Bool) : RepV K μ H (.bl b) (.bl b)
  | int (i : Int) : RepV K μ H (.int i) (.int i)
  | str (x : List Nat) : RepV K μ H (.str x) (.str ⟨x.toArray⟩)
  | tup {a : Addr} {ds : List D} {vs : List V} : SqT K H a vs → RepL K μ H ds vs → RepV K μ H (.tup ds) (.ref a)
  | cst {a : Addr} {ds : List D} {vs : List V} : SqF K H a vs → RepL K μ H ds vs → RepV K μ H (.cst ds) (.ref a)
  | loc {n : Nat} {a : Addr} : μ[n]? = some a → RepV K μ H (.loc n) (.ref a)
  | adr (a : Addr) : RepV K μ H (.adr a) (.ref a)
inductive RepL (K : PySem.W.Frag) (μ : Mu) (H : Hp) : List D → List V → Prop
  | nil : RepL K μ H [] []
  | cons {d : D} {v : V} {ds : List D} {vs : List V} : RepV K μ H d v → RepL K μ H ds vs → RepL K μ H (d :: ds) (v :: vs)
end

/-- what a value's reading leans on stays -/
structure UpR (μ : Mu) (H : Hp) (μ' : Mu) (H' : Hp) : Prop where
  mu : ∀ (n : Nat) (a : Addr), μ[n]? = some a → μ'[n]? = some a
  tup : ∀ (b : Addr) (xs : List V), H b = some (.tup xs) → H' b = some (.tup xs)
  frz : ∀ (b : Addr) (o : Obj) (u : HO), H b = some (.frz o u) → H' b = some (.frz o u)
/-- the way from a heap to a later one: what is no cell stays as it is, new cells are new objects -/
structure Up (μ : Mu) (H : Hp) (μ' : Mu) (H' : Hp) : Prop extends UpR μ H μ' H' where
  rest : ∀ (b : Addr) (o : HO), H b = some o → b ∉ μ → H' b = some o
  fresh : ∀ b, b ∈ μ' → b ∈ μ ∨ H b = none
theorem UpR.refl {μ : Mu} {H : Hp} : UpR μ H μ H := ⟨fun _ _ h => h, fun _ _ h => h, fun _ _ _ h => h⟩
theorem Up.refl {μ : Mu} {H : Hp} : Up μ H μ H := ⟨.refl, fun _ _ h _ => h, fun _ h => .inl h⟩
theorem UpR.trans {μ μ1 μ2 : Mu} {H H1 H2 : Hp} (a : UpR μ H μ1 H1) (b : UpR μ1 H1 μ2 H2) : UpR μ H μ2 H2 :=
  ⟨fun n x h => b.mu n x (a.mu n x h), fun n x h => b.tup n x (a.tup n x h), fun n x u h => b.frz n x u (a.frz n x u h)⟩
theorem Up.back {μ μ1 : Mu} {H H1 : Hp} (a : Up μ H μ1 H1) {b : Addr} (h : H1 b = none) : b ∈ μ ∨ H b = none := by
  cases q : H b with
  | none => exact .inr rfl
  | some o =>
    by_cases hb : b ∈ μ
    · exact .inl hb
    · rw [a.rest b o q hb] at h; cases h
theorem Up.off {μ μ1 : Mu} {H H1 : Hp} (a : Up μ H μ1 H1) {b : Addr} {o : HO} (h : H b = some o) (hb : b ∉ μ) : b ∉ μ1 := fun hm => by
  rcases a.fresh b hm with z | z
  · exact hb z
  · rw [h] at z; cases z
theorem Up.trans {μ μ1 μ2 : Mu} {H H1 H2 : Hp} (a : Up μ H μ1 H1) (b : Up μ1 H1 μ2 H2) : Up μ H μ2 H2 where
  toUpR := a.toUpR.trans b.toUpR
  rest := fun x o h hx => b.rest x o (a.rest x o h hx) (a.off h hx)
  fresh := fun x hx => (b.fresh x hx).elim (a.fresh x) a.back
theorem UpR.sqT {K : PySem.W.Frag} {μ μ' : Mu} {H H' : Hp} {a : Addr} {xs : List V} (u : UpR μ H μ' H') (h : SqT K H a xs) : SqT K H' a xs := by
  rcases h with (h | ⟨o, h⟩) | h
  · exact .inl (.inl (u.tup _ _ h))
  · exact .inl (.inr ⟨o, u.frz _ _ _ h⟩)
  · exact .inr h
theorem UpR.sqF {K : PySem.W.Frag} {μ μ' : Mu} {H H' : Hp} {a : Addr} {xs : List V} (u : UpR μ H μ' H') (h : SqF K H a xs) : SqF K H' a xs := by
  rcases h with ⟨o, h⟩ | h
  · exact .inl ⟨o, u.frz _ _ _ h⟩
  · exact .inr h
mutual
theorem RepV.upR {K : PySem.W.Frag} {μ μ' : Mu} {H H' : Hp} (u : UpR μ H μ' H') : ∀ {d : D} {v : V}, RepV K μ H d v → RepV K μ' H' d v
  | _, _, .non => .non
  | _, _, .bl b => .bl b
  | _, _, .int i => .int i
  | _, _, .str x => .str x
  | _, _, .tup h r => .tup (u.sqT h) (RepL.upR u r)
  | _, _, .cst h r => .cst (u.sqF h) (RepL.upR u r)
  | _, _, .loc h => .loc (u.mu _ _ h)
  | _, _, .adr a => .adr a
theorem RepL.upR {K : PySem.W.Frag} {μ μ' : Mu} {H H' : Hp} (u : UpR μ H μ' H') : ∀ {ds : List D} {vs : List V}, RepL K μ H ds vs → RepL K μ' H' ds vs
  | _, _, .nil => .nil
  | _, _, .cons h r => .cons (RepV.upR u h) (RepL.upR u r)
end
theorem RepV.up {K : PySem.W.Frag} {μ μ' : Mu} {H H' : Hp} {d : D} {v : V} (h : RepV K μ H d v) (u : Up μ H μ' H') : RepV K μ' H' d v := h.upR u.toUpR
theorem RepL.up {K : PySem.W.Frag} {μ μ' : Mu} {H H' : Hp} {ds : List D} {vs : List V} (h : RepL K μ H ds vs) (u : Up μ H μ' H') : RepL K μ' H' ds vs := h.upR u.toUpR
section
variable {K : PySem.W.Frag} {μ μ' : Mu} {H H' : Hp}
theorem RepL.length : ∀ {ds : List D} {vs : List V}, RepL K μ H ds vs → ds.length = vs.length
  | _, _, .nil => rfl
  | _, _, .cons _ r => by simp [RepL.length r]
theorem RepL.get : ∀ {ds : List D} {vs : List V} {i : Nat} {v : V}, RepL K μ H ds vs → vs[i]? = some v → ∃ d, ds[i]? = some d ∧ RepV K μ H d v
  | _, _, _, _, .nil, e => by simp at e
  | _, _, 0, _, .cons h _, e => by simp at e; subst e; exact ⟨_, rfl, h⟩
  | _, _, i + 1, _, .cons _ r, e => by
    obtain ⟨d, e1, e2⟩ := RepL.get (i := i) r (by simpa using e)
    exact ⟨d, by simpa using e1, e2⟩
theorem RepL.getD : ∀ {ds : List D} {vs : List V} {i : Nat} {d : D}, RepL K μ H ds vs → ds[i]? = some d → ∃ v, vs[i]? = some v ∧ RepV K μ H d v
  | _, _, _, _, .nil, e => by simp at e
  | _, _, 0, _, .cons h _, e => by simp at e; subst e; exact ⟨_, rfl, h⟩
  | _, _, i + 1, _, .cons _ r, e => by
    obtain ⟨d, e1, e2⟩ := RepL.getD (i := i) r (by simpa using e)
    exact ⟨d, by simpa using e1, e2⟩
theorem RepL.append : ∀ {ds es : List D} {vs ws : List V}, RepL K μ H ds vs → RepL K μ H es ws → RepL K μ H (ds ++ es) (vs ++ ws)
  | _, _, _, _, .nil, q => q
  | _, _, _, _, .cons h r, q => .cons h (RepL.append r q)
theorem RepL.snoc {ds : List D} {vs : List V} {d : D} {v : V} (r : RepL K μ H ds vs) (h : RepV K μ H d v) : RepL K μ H (ds ++ [d]) (vs ++ [v]) := r.append (.cons h .nil)
theorem RepL.drop : ∀ {ds : List D} {vs : List V} (n : Nat), RepL K μ H ds vs → RepL K μ H (ds.drop n) (vs.drop n)
  | _, _, 0, r => r
  | _, _, _ + 1, .nil => .nil
  | _, _, n + 1, .cons _ r => RepL.drop n r
theorem RepL.take : ∀ {ds : List D} {vs : List V} (n : Nat), RepL K μ H ds vs → RepL K μ H (ds.take n) (vs.take n)
  | _, _, 0, _ => .nil
  | _, _, _ + 1, .nil => .nil
  | _, _, n + 1, .cons h r => .cons h (RepL.take n r)
theorem RepL.set {d : D} {v : V} (h : RepV K μ H d v) : ∀ {ds : List D} {vs : List V} (i : Nat), RepL K μ H ds vs → RepL K μ H (ds.set i d) (vs.set i v)
  | _, _, _, .nil => .nil
  | _, _, 0, .cons _ r => .cons h r
  | _, _, i + 1, .cons q r => .cons q (RepL.set h i r)
end

/-! ### cells, the store -/
def CellOk (mg : Str → Option Value) (K : PySem.W.Frag) (μ : Mu) (H : Hp) (a : Addr) : Cell → Prop
  | .lst xs => ∃ vs, H a = some (.lst vs) ∧ RepL K μ H xs vs
  | .dic kvs => ∃ ws : List (Key × V), H a = some (.dK ws) ∧ ws.map (·.1) = kvs.map (·.1) ∧ RepL K μ H (kvs.map (·.2)) (ws.map (·.2))
  | .ins c fs => ∃ (C dx : Addr) (ws : List (Str × V)), mg (Str.ofString c) = some (.ref C) ∧ H a = some (.ins C dx ws) ∧ ws.map (·.1) = fs.map (fun p => Str.ofString p.1) ∧ RepL K μ H (fs.map (·.2)) (ws.map (·.2))
structure StoRep (mg : Str → Option Value) (K : PySem.W.Frag) (μ : Mu) (S : List Cell) (H : Hp) : Prop where
  nd : μ.Nodup
  len : μ.length = S.length
  at_ : ∀ (n : Nat) (c : Cell) (a : Addr), S[n]? = some c → μ[n]? = some a → CellOk mg K μ H a c
abbrev Sl := List (Option D)
structure SlRep (K : PySem.W.Frag) (μ : Mu) (H : Hp) (sd : Sl) (σ : St) : Prop where
  len : sd.length = σ.length
  at_ : ∀ (i : Nat) (d : D), sd[i]? = some (some d) → ∃ v, σ[i]? = some (some v) ∧ RepV K μ H d v
section
variable {mg : Str → Option Value} {K : PySem.W.Frag} {μ μ' : Mu} {S : List Cell} {H H' : Hp} {a p : Addr} {sd : Sl} {σ : St}
theorem CellOk.some {c : Cell} (h : CellOk mg K μ H a c) : ∃ o, H a = some o := by
  cases c with
  | lst xs => obtain ⟨vs, h, _⟩ := h; exact ⟨_, h⟩
  | dic kvs => obtain ⟨ws, h, _⟩ := h; exact ⟨_, h⟩
  | ins c fs => obtain ⟨C, dx, ws, _, h, _⟩ := h; exact ⟨_, h⟩
theorem StoRep.here (h : StoRep mg K μ S H) {n : Nat} (e : μ[n]? = some a) : ∃ c, S[n]? = some c ∧ CellOk mg K μ H a c := by
  have hl : n < S.length := by
    have := (List.getElem?_eq_some_iff.mp e).1
    rw [h.len] at this; exact this
  exact ⟨S[n], by simp [hl], h.at_ n _ a (by simp [hl]) e⟩
theorem StoRep.new (h : StoRep mg K μ S H) (hp : H p = none) : p ∉ μ := fun hm => by
  obtain ⟨n, hn⟩ := List.mem_iff_getElem?.mp hm
  obtain ⟨c, _, hc⟩ := h.here hn
  obtain ⟨o, e⟩ := hc.some
  rw [hp] at e; cases e
theorem upR_tmp {o : HO} (hp : H p = none) : UpR μ H μ (upd H p o) where
  mu := fun n a e => e
  tup := fun b xs e => by rw [upd_ne (ne_of_none e hp)]; exact e
  frz := fun b x u e => by rw [upd_ne (ne_of_none e hp)]; exact e
theorem up_tmp {o : HO} (hp : H p = none) : Up μ H μ (upd H p o) where
  toUpR := upR_tmp hp
  rest := fun b x e _ => by rw [upd_ne (ne_of_none e hp)]; exact e
  fresh := fun b h => .inl h
/-- a new object becomes a cell -/
theorem Up.adopt (u : Up μ H μ' H') (hp : H p = none) : Up μ H (μ' ++ [p]) H' where
  mu := fun n a e => by
    have e' := u.mu n a e
    rw [List.getElem?_append_left (List.getElem?_eq_some_iff.mp e').1]; exact e'
  tup := u.tup
  frz := u.frz
  rest := u.rest
  fresh := fun b h => by
    rcases List.mem_append.mp h with h | h
    · exact u.fresh b h
    · rw [List.mem_singleton] at h; subst h; exact .inr hp
theorem up_new {o : HO} (hp : H p = none) : Up μ H (μ ++ [p]) (upd H p o) := (up_tmp hp).adopt hp
/-- a cell is not touched: its own address and what it holds stay -/
theorem CellOk.keep {c : Cell} (h : CellOk mg K μ H a c) (u : UpR μ H μ' H') (e : H' a = H a) : CellOk mg K μ' H' a c := by
  cases c with
  | lst xs => obtain ⟨vs, h, r⟩ := h; exact ⟨vs, by rw [e]; exact h, r.upR u⟩
  | dic kvs => obtain ⟨ws, h, k, r⟩ := h; exact ⟨ws, by rw [e]; exact h, k, r.upR u⟩
  | ins c fs => obtain ⟨C, dx, ws, m, h, k, r⟩ := h; exact ⟨C, dx, ws, m, by rw [e]; exact h, k, r.upR u⟩
/-- a thing that is not in the store comes up -/
theorem StoRep.tmp {o : HO} (h : StoRep mg K μ S H) (hp : H p = none) : StoRep mg K μ S (upd H p o) where
  nd := h.nd
  len := h.len
  at_ := fun n c a e1 e2 => (h.at_ n c a e1 e2).keep (upR_tmp hp) (upd_ne fun z => h.new hp (by rw [← z]; exact List.mem_of_getElem? e2))
theorem StoRep.alloc {o : HO} {c : Cell} (h : StoRep mg K μ S H) (hp : H p = none) (hc : CellOk mg K (μ ++ [p]) (upd H p o) p c) : StoRep mg K (μ ++ [p]) (S ++ [c]) (upd H p o) where
  nd := by
    rw [List.nodup_append]
    refine ⟨h.nd, by simp, fun x hx y hy e => ?_⟩
    rw [List.mem_singleton] at hy
    subst hy; subst e
    exact h.new hp hx
  len := by simp [h.len]
  at_ := fun n c' a e1 e2 => by
    by_cases hn : n < S.length
    · have e1' : S[n]? = some c' := by rw [← e1, List.getElem?_append_left hn]
      have e2' : μ[n]? = some a := by rw [← e2, List.getElem?_append_left (by rw [h.len]; exact hn)]
      exact (h.at_ n c' a e1' e2').keep (up_new hp).toUpR (upd_ne fun z => h.new hp (by rw [← z]; exact List.mem_of_getElem? e2'))
    · have hn' : n = S.length := by
        have := (List.getElem?_eq_some_iff.mp e1).1
        simp at this; omega
      subst hn'
      have z1 : c = c' := by simpa using e1
      have z2 : p = a := by
        have := h.len
        rw [← this] at e2; simpa using e2
      subst z1; subst z2
      exact hc
theorem up_put {o : HO} {vs : List V} (hm : a ∈ μ) (e : H a = some (.lst vs)) : Up μ H μ (upd H a o) where
  mu := fun n a e => e
  tup := fun b xs q => by rw [upd_ne (ne_of q e (by intro z; cases z))]; exact q
  frz := fun b x u q => by rw [upd_ne (ne_of q e (by intro z; cases z))]; exact q
  rest := fun b x q hb => by rw [upd_ne (fun z => hb (by rw [z]; exact hm))]; exact q
  fresh := fun b h => .inl h
/-- a list that is no cell is changed -/
theorem upR_other {o : HO} {vs : List V} (e : H a = some (.lst vs)) : UpR μ H μ (upd H a o) where
  mu := fun n a e => e
  tup := fun b xs q => by rw [upd_ne (ne_of q e (by intro z; cases z))]; exact q
  frz := fun b x u q => by rw [upd_ne (ne_of q e (by intro z; cases z))]; exact q
theorem Up.other {o : HO} {vs : List V} (u : Up μ H μ' H') (h0 : H a = none) (e : H' a = some (.lst vs)) : Up μ H μ' (upd H' a o) where
  toUpR := u.toUpR.trans (upR_other e)
  rest := fun b x q hb => by rw [upd_ne (ne_of_none q h0)]; exact u.rest b x q hb
  fresh := u.fresh
theorem StoRep.other {o : HO} {vs : List V} (h : StoRep mg K μ S H) (hm : a ∉ μ) (e : H a = some (.lst vs)) : StoRep mg K μ S (upd H a o) where
  nd := h.nd
  len := h.len
  at_ := fun n c b e1 e2 => (h.at_ n c b e1 e2).keep (upR_other e) (upd_ne fun z => hm (by rw [← z]; exact List.mem_of_getElem? e2))
theorem StoRep.put {vs vs' : List V} {ds : List D} {n : Nat} (h : StoRep mg K μ S H) (e : μ[n]? = some a) (ha : H a = some (.lst vs)) (r : RepL K μ H ds vs') : StoRep mg K μ (S.set n (.lst ds)) (upd H a (.lst vs')) where
  nd := h.nd
  len := by simp [h.len]
  at_ := fun m c b e1 e2 => by
    have u : Up μ H μ (upd H a (.lst vs')) := up_put (List.mem_of_getElem? e) ha
    have hl : n < S.length := by
      have := (List.getElem?_eq_some_iff.mp e).1
      rw [h.len] at this; exact this
    by_cases hm : m = n
    · subst hm
      rw [e] at e2; cases e2
      rw [List.getElem?_set_self hl] at e1; cases e1
      exact ⟨vs', upd_same, r.up u⟩
    · rw [List.getElem?_set_ne (Ne.symm hm)] at e1
      refine (h.at_ m c b e1 e2).keep u.toUpR (upd_ne fun z => ?_)
      subst z
      have h1 := (List.getElem?_eq_some_iff.mp e)
      have h2 := (List.getElem?_eq_some_iff.mp e2)
      obtain ⟨l1, g1⟩ := h1
      obtain ⟨l2, g2⟩ := h2
      exact hm ((List.getElem_inj h.nd).mp (g2.trans g1.symm))
/-- a cell is written -/
theorem up_mut {o : HO} (hm : a ∈ μ) (h1 : ∀ xs, H a ≠ some (.tup xs)) (h2 : ∀ x u, H a ≠ some (.frz x u)) : Up μ H μ (upd H a o) where
  mu := fun n a e => e
  tup := fun b xs q => by rw [upd_ne (fun z => h1 xs (by rw [← z]; exact q))]; exact q
  frz := fun b x u q => by rw [upd_ne (fun z => h2 x u (by rw [← z]; exact q))]; exact q
  rest := fun b x q hb => by rw [upd_ne (fun z => hb (by rw [z]; exact hm))]; exact q
  fresh := fun b h => .inl h
theorem StoRep.mut {o : HO} {c' : Cell} {n : Nat} (h : StoRep mg K μ S H) (e : μ[n]? = some a) (h1 : ∀ xs, H a ≠ some (.tup xs)) (h2 : ∀ x u, H a ≠ some (.frz x u)) (hc : CellOk mg K μ (upd H a o) a c') : StoRep mg K μ (S.set n c') (upd H a o) where
  nd := h.nd
  len := by simp [h.len]
  at_ := fun m c b e1 e2 => by
    have u : Up μ H μ (upd H a o) := up_mut (List.mem_of_getElem? e) h1 h2
    have hl : n < S.length := by
      have := (List.getElem?_eq_some_iff.mp e).1
      rw [h.len] at this; exact this
    by_cases hm : m = n
    · subst hm
      rw [e] at e2; cases e2
      rw [List.getElem?_set_self hl] at e1; cases e1
      exact hc
    · rw [List.getElem?_set_ne (Ne.symm hm)] at e1
      refine (h.at_ m c b e1 e2).keep u.toUpR (upd_ne fun z => ?_)
      subst z
      obtain ⟨l1, g1⟩ := List.getElem?_eq_some_iff.mp e
      obtain ⟨l2, g2⟩ := List.getElem?_eq_some_iff.mp e2
      exact hm ((List.getElem_inj h.nd).mp (g2.trans g1.symm))
theorem SlRep.upR (h : SlRep K μ H sd σ) (u : UpR μ H μ' H') : SlRep K μ' H' sd σ := ⟨h.len, fun i d e => let ⟨v, e1, r⟩ := h.at_ i d e; ⟨v, e1, r.upR u⟩⟩
theorem SlRep.up (h : SlRep K μ H sd σ) (u : Up μ H μ' H') : SlRep K μ' H' sd σ := ⟨h.len, fun i d e => let ⟨v, e1, r⟩ := h.at_ i d e; ⟨v, e1, r.up u⟩⟩
theorem SlRep.set {i : Nat} {d : D} {v : V} (h : SlRep K μ H sd σ) (r : RepV K μ H d v) : SlRep K μ H (sd.set i (some d)) (σ.set i (some v)) where
  len := by simp [h.len]
  at_ := fun j e q => by
    by_cases hj : j = i
    · subst hj
      have hl : j < sd.length := by
        have := (List.getElem?_eq_some_iff.mp q).1
        simpa using this
      rw [List.getElem?_set_self hl] at q
      cases q
      exact ⟨v, List.getElem?_set_self (by rw [← h.len]; exact hl), r⟩
    · rw [List.getElem?_set_ne (Ne.symm hj)] at q ⊢
      exact h.at_ j e q
theorem SlRep.none {i : Nat} (h : SlRep K μ H sd σ) : SlRep K μ H (sd.set i none) (σ.set i none) where
  len := by simp [h.len]
  at_ := fun j e q => by
    by_cases hj : j = i
    · subst hj
      have hl : j < sd.length := by
        have := (List.getElem?_eq_some_iff.mp q).1
        simpa using this
      rw [List.getElem?_set_self hl] at q
      cases q
    · rw [List.getElem?_set_ne (Ne.symm hj)] at q ⊢
      exact h.at_ j e q
end
end Fx

namespace Fx
open PySem PySem.Spec PyProof.Rows L2

/-! ### readings of expressions, by functions over the data -/
abbrev ME := Sl → List Cell → Res D
abbrev MA := Sl → List Cell → Res (List D)
abbrev MT := Sl → List Cell → Res Bool

/-- how an exception lies in the heap -/
def ExRep (mg : Str → Option Value) (K : PySem.W.Frag) (μ : Mu) (H : Hp) (x : Ex) (cls : Value) (dx : Option Addr) : Prop :=
  ∃ C d fs, cls = .ref C ∧ dx = some d ∧ mg (Str.ofString x.cls) = some (.ref C) ∧ H d = some (.xd fs) ∧ fs.map (·.1) = x.fs.map (fun p => Str.ofString p.1) ∧ RepL K μ H (x.fs.map (·.2)) (fs.map (·.2))

section
variable (mg : Str → Option Value) (K : PySem.W.Frag)
/-- what is wanted behind a value, behind an exception -/
def FinA {α : Type} {β : Type} (Rep : Mu → Hp → α → β → Prop) (E : XK) (μ : Mu) (H : Hp) (r : Res α) (Q : β → Hp → Prop) : Prop :=
  match r with
  | .ok d S' => ∀ v H' μ', Up μ H μ' H' → StoRep mg K μ' S' H' → Rep μ' H' d v → Q v H'
  | .exc x S' => ∀ cls dx H' μ', Up μ H μ' H' → StoRep mg K μ' S' H' → ExRep mg K μ' H' x cls dx → E cls dx H'
  | .stk => False
/-- .. with the store and the map told to what follows -/
def FinK {α : Type} {β : Type} (Rep : Mu → Hp → α → β → Prop) (E : XK) (μ : Mu) (H : Hp) (r : Res α) (Q : α → List Cell → Mu → β → Hp → Prop) : Prop :=
  match r with
  | .ok d S' => ∀ v H' μ', Up μ H μ' H' → StoRep mg K μ' S' H' → Rep μ' H' d v → Q d S' μ' v H'
  | .exc x S' => ∀ cls dx H' μ', Up μ H μ' H' → StoRep mg K μ' S' H' → ExRep mg K μ' H' x cls dx → E cls dx H'
  | .stk => False
end
section
variable {mg : Str → Option Value} {K : PySem.W.Frag} {E : XK} {μ μ' : Mu} {H H' : Hp}
variable {α β γ δ : Type} {Rep : Mu → Hp → α → β → Prop} {Rep' : Mu → Hp → γ → δ → Prop}
theorem FinA.up {r : Res α} {Q : β → Hp → Prop} (u : Up μ H μ' H') (h : FinA mg K Rep E μ H r Q) : FinA mg K Rep E μ' H' r Q := by
  cases r with
  | ok d S => exact fun v H2 μ2 u2 => h v H2 μ2 (u.trans u2)
  | exc x S => exact fun c dx H2 μ2 u2 => h c dx H2 μ2 (u.trans u2)
  | stk => exact h
/-- one behind another -/
theorem FinA.bind {r : Res α} {f : α → List Cell → Res γ} {Q : δ → Hp → Prop} (h : FinA mg K Rep' E μ H (r.bind f) Q) :
    FinK mg K Rep E μ H r fun d S' μ' v H' => FinA mg K Rep' E μ' H' (f d S') Q := by
  cases r with
  | ok d S =>
    intro v H2 μ2 u2 s2 r2
    exact FinA.up u2 h
  | exc x S => exact h
  | stk => exact h
end

abbrev RepB (_ : Mu) (_ : Hp) (a b : Bool) : Prop := a = b
def tE (X : Cx) (W : WX) (m : ME) : TE := fun σ H Q => ∃ μ S sd, StoRep X.mg X.K μ S H ∧ SlRep X.K μ H sd σ ∧ FinA X.mg X.K (RepV X.K) (fun c d H' => W c d σ H') μ H (m sd S) Q
def tA (X : Cx) (W : WX) (m : MA) : TA := fun σ H Q => ∃ μ S sd, StoRep X.mg X.K μ S H ∧ SlRep X.K μ H sd σ ∧ FinA X.mg X.K (RepL X.K) (fun c d H' => W c d σ H') μ H (m sd S) Q
def tT (X : Cx) (W : WX) (m : MT) : TT := fun σ H Q => ∃ μ S sd, StoRep X.mg X.K μ S H ∧ SlRep X.K μ H sd σ ∧ FinA X.mg X.K RepB (fun c d H' => W c d σ H') μ H (m sd S) Q
abbrev SE (X : Cx) (W : WX) (e : Expr) (m : ME) : Prop := PE X e (tE X W m)
abbrev SA (X : Cx) (W : WX) (es : List Expr) (m : MA) : Prop := PA X es (tA X W m)
abbrev ST (X : Cx) (W : WX) (e : Expr) (m : MT) : Prop := PT X e (tT X W m)

theorem _root_.L2.PE.impF {X : Cx} {e : Expr} {t t' : TE} (h : PE X e t) (i : ∀ σ H Q, t' σ H Q → t σ H Q) : PE X e t' := ⟨fun pins s σ H Q I q => h.run pins s σ H Q I (i σ H Q q)⟩
theorem _root_.L2.PA.impF {X : Cx} {e : List Expr} {t t' : TA} (h : PA X e t) (i : ∀ σ H Q, t' σ H Q → t σ H Q) : PA X e t' := ⟨fun pos pins s σ H Q I q => h.run pos pins s σ H Q I (i σ H Q q)⟩
theorem _root_.L2.PT.impF {X : Cx} {e : Expr} {t t' : TT} (h : PT X e t) (i : ∀ σ H Q, t' σ H Q → t σ H Q) : PT X e t' := ⟨fun pins s σ H Q I q => h.run pins s σ H Q I (i σ H Q q)⟩
theorem _root_.L2.PS.impF {X : Cx} {e : Stmt} {t t' : TS} (h : PS X e t) (i : ∀ D σ H, t' D σ H → t D σ H) : PS X e t' := ⟨fun pins s σ H Q I q => h.run pins s σ H Q I (i Q σ H q)⟩
theorem _root_.L2.PSs.impF {X : Cx} {e : List Stmt} {t t' : TS} (h : PSs X e t) (i : ∀ D σ H, t' D σ H → t D σ H) : PSs X e t' := ⟨fun pins s σ H Q I q => h.run pins s σ H Q I (i Q σ H q)⟩

section
variable {X : Cx} {W : WX}
/-- a part, then what follows it: the way through tE -/
theorem tE_bind {α δ : Type} {Rep' : Mu → Hp → α → δ → Prop} {m : ME} {f : D → List Cell → Res α} {σ : St} {H : Hp} {μ : Mu} {S : List Cell} {sd : Sl} {Q : δ → Hp → Prop} {Q' : VK} (hs : StoRep X.mg X.K μ S H) (hl : SlRep X.K μ H sd σ)
    (h : FinA X.mg X.K Rep' (fun c d H' => W c d σ H') μ H ((m sd S).bind f) Q)
    (k : ∀ d S' μ' v H', StoRep X.mg X.K μ' S' H' → SlRep X.K μ' H' sd σ → Up μ H μ' H' → RepV X.K μ' H' d v → FinA X.mg X.K Rep' (fun c d H' => W c d σ H') μ' H' (f d S') Q → Q' v H') : tE X W m σ H Q' := by
  refine ⟨μ, S, sd, hs, hl, ?_⟩
  have h' := FinA.bind (Rep := RepV X.K) h
  generalize hr : m sd S = r at h h'
  cases r with
  | ok d S' => exact fun v H' μ' u s r => k d S' μ' v H' s (hl.up u) u r (h' v H' μ' u s r)
  | exc x S' => exact h'
  | stk => exact h'
theorem tA_bind {α δ : Type} {Rep' : Mu → Hp → α → δ → Prop} {m : MA} {f : List D → List Cell → Res α} {σ : St} {H : Hp} {μ : Mu} {S : List Cell} {sd : Sl} {Q : δ → Hp → Prop} {Q' : List V → Hp → Prop} (hs : StoRep X.mg X.K μ S H) (hl : SlRep X.K μ H sd σ)
    (h : FinA X.mg X.K Rep' (fun c d H' => W c d σ H') μ H ((m sd S).bind f) Q)
    (k : ∀ d S' μ' v H', StoRep X.mg X.K μ' S' H' → SlRep X.K μ' H' sd σ → Up μ H μ' H' → RepL X.K μ' H' d v → FinA X.mg X.K Rep' (fun c d H' => W c d σ H') μ' H' (f d S') Q → Q' v H') : tA X W m σ H Q' := by
  refine ⟨μ, S, sd, hs, hl, ?_⟩
  have h' := FinA.bind (Rep := RepL X.K) h
  generalize hr : m sd S = r at h h'
  cases r with
  | ok d S' => exact fun v H' μ' u s r => k d S' μ' v H' s (hl.up u) u r (h' v H' μ' u s r)
  | exc x S' => exact h'
  | stk => exact h'
theorem tT_bind {α δ : Type} {Rep' : Mu → Hp → α → δ → Prop} {m : MT} {f : Bool → List Cell → Res α} {σ : St} {H : Hp} {μ : Mu} {S : List Cell} {sd : Sl} {Q : δ → Hp → Prop} {Q' : Bool → Hp → Prop} (hs : StoRep X.mg X.K μ S H) (hl : SlRep X.K μ H sd σ)
    (h : FinA X.mg X.K Rep' (fun c d H' => W c d σ H') μ H ((m sd S).bind f) Q)
    (k : ∀ d S' μ' H', StoRep X.mg X.K μ' S' H' → SlRep X.K μ' H' sd σ → Up μ H μ' H' → FinA X.mg X.K Rep' (fun c d H' => W c d σ H') μ' H' (f d S') Q → Q' d H') : tT X W m σ H Q' := by
  refine ⟨μ, S, sd, hs, hl, ?_⟩
  have h' := FinA.bind (Rep := RepB) h
  generalize hr : m sd S = r at h h'
  cases r with
  | ok d S' => exact fun v H' μ' u s r => (show d = v from r) ▸ k d S' μ' H' s (hl.up u) u (h' v H' μ' u s r)
  | exc x S' => exact h'
  | stk => exact h'

/-! ### constants, names -/
def mC (d : D) : ME := fun _ S => .ok d S
def mVar (i : Nat) : ME := fun sd S => match sd[i]? with | some (some d) => .ok d S | _ => .stk
theorem se_var (i : Nat) {x : Str} {pos : Pos} (hN : X.N[i]? = some x := by rfl) (hv : Vis X.env.scope x := by first | exact Or.inl rfl | exact Or.inr (Or.inl rfl) | exact Or.inr (Or.inr rfl)) (hd : (x == ("__debug__" : Str)) = false := by decide)
    (hcd : (x == ("__classdict__" : Str)) = false := by decide) : SE X W (.Name x pos) (mVar i) := by
  refine (pe_var hN hv hd hcd).impF fun σ H Q ⟨μ, S, sd, hs, hl, h⟩ => ?_
  unfold mVar at h
  split at h
  · rename_i d e
    obtain ⟨v, e1, r⟩ := hl.at_ i d e
    exact ⟨v, e1, h v H μ .refl hs r⟩
  · exact h.elim
theorem se_const {e : Expr} {v : V} {d : D} (h : PE X e (tC v)) (r : ∀ μ H, RepV X.K μ H d v) : SE X W e (mC d) := h.impF fun σ H Q ⟨μ, S, sd, hs, hl, h⟩ => h v H μ .refl hs (r μ H)
theorem se_int {i j pos} : SE X W (.Constant (.int i) j pos) (mC (.int i)) := se_const pe_int fun _ _ => .int i
theorem se_bl {b j pos} : SE X W (.Constant (.bool b) j pos) (mC (.bl b)) := se_const pe_bl fun _ _ => .bl b
theorem se_non {j pos} : SE X W (.Constant .none j pos) (mC .non) := se_const pe_non fun _ _ => .non
theorem se_str {x j pos} : SE X W (.Constant (.str x) j pos) (mC (.str x.cps.toList)) := se_const pe_str fun μ H => by
  have e : x = ⟨x.cps.toList.toArray⟩ := by cases x; simp
  have := RepV.str (K := X.K) (μ := μ) (H := H) x.cps.toList
  rwa [← e] at this
/-- a global constant of the module -/
theorem se_glob {x : Str} {v : V} {d : D} {u : Value} {pos : Pos} (hg : Gl X x) (hm : X.mg x = some u) (r : RelV v u) (rd : ∀ μ H, RepV X.K μ H d v) (hd : (x == ("__debug__" : Str)) = false := by decide) : SE X W (.Name x pos) (mC d) := se_const (pe_glob hg hm r hd) rd

/-! ### argument lists, displays -/
def mNil : MA := fun _ S => .ok [] S
def mCons (m : ME) (r : MA) : MA := fun sd S => (m sd S).bind fun d S1 => (r sd S1).bind fun ds S2 => .ok (d :: ds) S2
theorem sa_nil : SA X W [] mNil := pa_nil.impF fun σ H Q ⟨μ, S, sd, hs, hl, h⟩ => h [] H μ .refl hs .nil
theorem sa_cons {e : Expr} {es : List Expr} {m : ME} {r : MA} (he : SE X W e m) (hr : SA X W es r) (hst : starEach (e :: es) X.env = (false, eval e X.env) :: starEach es X.env := by rfl) : SA X W (e :: es) (mCons m r) :=
  (pa_cons he hr hst).impF fun σ H Q ⟨μ, S, sd, hs, hl, h⟩ => tE_bind hs hl h fun d S1 μ1 v H1 hs1 hl1 u1 r1 h1 => tA_bind hs1 hl1 h1 fun ds S2 μ2 vs H2 hs2 hl2 u2 r2 h2 => h2 (v :: vs) H2 μ2 .refl hs2 (.cons (r1.up u2) r2)
def mTup (m : MA) : ME := fun sd S => (m sd S).bind fun ds S1 => if ds.length ≤ sizeLine then .ok (.tup ds) S1 else .stk
def mLst (m : MA) : ME := fun sd S => (m sd S).bind fun ds S1 => if ds.length ≤ sizeLine then .ok (.loc S1.length) (S1 ++ [.lst ds]) else .stk
theorem se_tup {es : List Expr} {m : MA} {x1 pos} (h : SA X W es m) : SE X W (.Tuple es x1 pos) (mTup m) :=
  (pe_tup h).impF fun σ H Q ⟨μ, S, sd, hs, hl, h⟩ => tA_bind hs hl h fun ds S1 μ1 vs H1 hs1 hl1 u1 r1 h1 => by
    split at h1
    · rename_i hz
      refine ⟨by rw [← r1.length]; exact hz, fun p hp => ?_⟩
      exact h1 (.ref p) _ μ1 (up_tmp hp) (hs1.tmp hp) (.tup (SqT.of upd_same) (r1.up (up_tmp hp)))
    · exact h1.elim
theorem se_lst {es : List Expr} {m : MA} {pos} (h : SA X W es m) : SE X W (.List es pos) (mLst m) :=
  (pe_lst h).impF fun σ H Q ⟨μ, S, sd, hs, hl, h⟩ => tA_bind hs hl h fun ds S1 μ1 vs H1 hs1 hl1 u1 r1 h1 => by
    split at h1
    · rename_i hz
      refine ⟨by rw [← r1.length]; exact hz, fun p hp => ?_⟩
      exact h1 (.ref p) _ (μ1 ++ [p]) (up_new hp) (hs1.alloc hp ⟨vs, upd_same, r1.up (up_new hp)⟩) (.loc (by rw [← hs1.len]; simp))
    · exact h1.elim

/-! ### operators -/
abbrev O2 := D → D → List Cell → Res D
/-- an operation on two values, by a function over the data (it raises nothing of its own) -/
def OpD (X : Cx) (W : WX) (f : Value → Value → Sem Value) (o : O2) : Prop :=
  ∃ r : R2, OpR X f r ∧ ∀ σ H μ S d e x y Q, StoRep X.mg X.K μ S H → RepV X.K μ H d x → RepV X.K μ H e y → FinA X.mg X.K (RepV X.K) (fun c d H' => W c d σ H') μ H (o d e S) Q → r x y H Q
def mBin (o : O2) (a b : ME) : ME := fun sd S => (a sd S).bind fun d S1 => (b sd S1).bind fun e S2 => o d e S2
theorem bin_of {a b : Expr} {ma mb : ME} {o : O2} {r : R2} (ha : SE X W a ma) (hb : SE X W b mb)
    (ho : ∀ σ H μ S d e x y Q, StoRep X.mg X.K μ S H → RepV X.K μ H d x → RepV X.K μ H e y → FinA X.mg X.K (RepV X.K) (fun c d H' => W c d σ H') μ H (o d e S) Q → r x y H Q) (σ : St) (H : Hp) (Q : VK) (h : tE X W (mBin o ma mb) σ H Q) :
    tOp r (tE X W ma) (tE X W mb) σ H Q := by
  obtain ⟨μ, S, sd, hs, hl, h⟩ := h
  exact tE_bind hs hl h fun d S1 μ1 v H1 hs1 hl1 u1 r1 h1 => tE_bind hs1 hl1 h1 fun e S2 μ2 w H2 hs2 hl2 u2 r2 h2 => ho σ H2 μ2 S2 d e v w Q hs2 (r1.up u2) r2 h2
theorem se_bin {op : Operator} {o : O2} {a b : Expr} {ma mb : ME} {pos : Pos} (ho : OpD X W (binaryOp op) o) (ha : SE X W a ma) (hb : SE X W b mb) : SE X W (.BinOp a op b pos) (mBin o ma mb) := by
  obtain ⟨r, h1, h2⟩ := ho
  exact (pe_op h1 ha hb).impF (bin_of ha hb h2)
theorem se_cmp {op : CmpOp} {o : O2} {a b : Expr} {ma mb : ME} {pos : Pos} (ho : OpD X W (compareOp op) o) (ha : SE X W a ma) (hb : SE X W b mb) (hm : behindInMarks op b = false := by first | exact nomark _ | rfl) : SE X W (.Compare a [op] [b] pos) (mBin o ma mb) := by
  obtain ⟨r, h1, h2⟩ := ho
  exact (pe_cmpR h1 ha hb hm).impF (bin_of ha hb h2)
/-- ints in, a value out, under a condition -/
def oInt (c : Int → Int → Bool) (g : Int → Int → D) : O2 := fun d e S => match d, e with
  | .int i, .int j => if c i j then .ok (g i j) S else .stk
  | _, _ => .stk
theorem RepV.inv_int {K : PySem.W.Frag} {μ : Mu} {H : Hp} {i : Int} {x : V} (h : RepV K μ H (.int i) x) : x = .int i := by cases h; rfl
theorem RepV.inv_bl {K : PySem.W.Frag} {μ : Mu} {H : Hp} {i : Bool} {x : V} (h : RepV K μ H (.bl i) x) : x = .bl i := by cases h; rfl
theorem RepV.inv_non {K : PySem.W.Frag} {μ : Mu} {H : Hp} {x : V} (h : RepV K μ H .non x) : x = .non := by cases h; rfl
theorem RepV.inv_str {K : PySem.W.Frag} {μ : Mu} {H : Hp} {i : List Nat} {x : V} (h : RepV K μ H (.str i) x) : x = .str ⟨i.toArray⟩ := by cases h; rfl
theorem od_int {f : Value → Value → Sem Value} {C : Int → Int → Prop} {c : Int → Int → Bool} {g : Int → Int → V} {gd : Int → Int → D} (h : OpR X f (rI C g)) (hc : ∀ i j, c i j = true → C i j) (hg : ∀ i j μ H, RepV X.K μ H (gd i j) (g i j)) : OpD X W f (oInt c gd) := by
  refine ⟨_, h, fun σ H μ S d e x y Q hs rx ry h => ?_⟩
  unfold oInt at h
  split at h
  · split at h
    · rename_i i j hcc
      exact ⟨i, j, rx.inv_int, ry.inv_int, hc i j hcc, h _ H μ .refl hs (hg i j μ H)⟩
    · exact h.elim
  · exact h.elim
theorem od_int0 {f : Value → Value → Sem Value} {g : Int → Int → V} {gd : Int → Int → D} (h : OpR X f (rI0 g)) (hg : ∀ i j μ H, RepV X.K μ H (gd i j) (g i j)) : OpD X W f (oInt (fun _ _ => true) gd) := by
  refine ⟨_, h, fun σ H μ S d e x y Q hs rx ry h => ?_⟩
  unfold oInt at h
  split at h
  · rename_i i j
    rw [if_pos rfl] at h
    exact ⟨i, j, rx.inv_int, ry.inv_int, h _ H μ .refl hs (hg i j μ H)⟩
  · exact h.elim
end
end Fx

namespace Fx
open PySem PySem.Spec PyProof.Rows L2

/-! ### statements -/
inductive ResS where
  | nx (sd : Sl) (S : List Cell) | rt (d : D) (S : List Cell) | bk (sd : Sl) (S : List Cell) | ct (sd : Sl) (S : List Cell) | exc (x : Ex) (sd : Sl) (S : List Cell) | stk
abbrev MS := Sl → List Cell → ResS
def FinS (mg : Str → Option Value) (K : PySem.W.Frag) (W : WX) (μ : Mu) (H : Hp) (r : ResS) (Q : Ends) : Prop :=
  match r with
  | .nx sd S' => ∀ σ' H' μ', Up μ H μ' H' → StoRep mg K μ' S' H' → SlRep K μ' H' sd σ' → Q.nx σ' H'
  | .bk sd S' => ∀ σ' H' μ', Up μ H μ' H' → StoRep mg K μ' S' H' → SlRep K μ' H' sd σ' → Q.bk σ' H'
  | .ct sd S' => ∀ σ' H' μ', Up μ H μ' H' → StoRep mg K μ' S' H' → SlRep K μ' H' sd σ' → Q.ct σ' H'
  | .rt d S' => ∀ v H' μ', Up μ H μ' H' → StoRep mg K μ' S' H' → RepV K μ' H' d v → Q.rt v H'
  | .exc x sd S' => ∀ cls dx σ' H' μ', Up μ H μ' H' → StoRep mg K μ' S' H' → SlRep K μ' H' sd σ' → ExRep mg K μ' H' x cls dx → W cls dx σ' H'
  | .stk => False
theorem FinS.up {mg : Str → Option Value} {K : PySem.W.Frag} {W : WX} {μ μ' : Mu} {H H' : Hp} {r : ResS} {Q : Ends} (u : Up μ H μ' H') (h : FinS mg K W μ H r Q) : FinS mg K W μ' H' r Q := by
  cases r with
  | nx d S => exact fun v H2 μ2 u2 => h v H2 μ2 (u.trans u2)
  | bk d S => exact fun v H2 μ2 u2 => h v H2 μ2 (u.trans u2)
  | ct d S => exact fun v H2 μ2 u2 => h v H2 μ2 (u.trans u2)
  | rt d S => exact fun v H2 μ2 u2 => h v H2 μ2 (u.trans u2)
  | exc x d S => exact fun a b v H2 μ2 u2 => h a b v H2 μ2 (u.trans u2)
  | stk => exact h
def tS (X : Cx) (W : WX) (m : MS) : TS := fun D σ H => ∃ μ S sd, StoRep X.mg X.K μ S H ∧ SlRep X.K μ H sd σ ∧ FinS X.mg X.K W μ H (m sd S) D
abbrev SS (X : Cx) (W : WX) (st : Stmt) (m : MS) : Prop := PS X st (tS X W m)
abbrev SB (X : Cx) (W : WX) (sts : List Stmt) (m : MS) : Prop := PSs X sts (tS X W m)
/-- an expression's end carried into a statement -/
def Res.thenS {α : Type} (r : Res α) (sd : Sl) (f : α → List Cell → ResS) : ResS := match r with
  | .ok a S => f a S
  | .exc x S => .exc x sd S
  | .stk => .stk
section
variable {X : Cx} {W : WX}
theorem tE_then {m : ME} {f : D → List Cell → ResS} {σ : St} {H : Hp} {μ : Mu} {S : List Cell} {sd : Sl} {Q : Ends} {Q' : VK} (hs : StoRep X.mg X.K μ S H) (hl : SlRep X.K μ H sd σ)
    (h : FinS X.mg X.K W μ H ((m sd S).thenS sd f) Q)
    (k : ∀ d S' μ' v H', StoRep X.mg X.K μ' S' H' → SlRep X.K μ' H' sd σ → Up μ H μ' H' → RepV X.K μ' H' d v → FinS X.mg X.K W μ' H' (f d S') Q → Q' v H') : tE X W m σ H Q' := by
  refine ⟨μ, S, sd, hs, hl, ?_⟩
  generalize hr : m sd S = r at h
  cases r with
  | ok d S' => exact fun v H' μ' u s r => k d S' μ' v H' s (hl.up u) u r (FinS.up u h)
  | exc x S' => exact fun c dx H' μ' u s e => h c dx σ H' μ' u s (hl.up u) e
  | stk => exact h
theorem tT_then {m : MT} {f : Bool → List Cell → ResS} {σ : St} {H : Hp} {μ : Mu} {S : List Cell} {sd : Sl} {Q : Ends} {Q' : Bool → Hp → Prop} (hs : StoRep X.mg X.K μ S H) (hl : SlRep X.K μ H sd σ)
    (h : FinS X.mg X.K W μ H ((m sd S).thenS sd f) Q)
    (k : ∀ d S' μ' H', StoRep X.mg X.K μ' S' H' → SlRep X.K μ' H' sd σ → Up μ H μ' H' → FinS X.mg X.K W μ' H' (f d S') Q → Q' d H') : tT X W m σ H Q' := by
  refine ⟨μ, S, sd, hs, hl, ?_⟩
  generalize hr : m sd S = r at h
  cases r with
  | ok d S' => exact fun v H' μ' u s r => (show d = v from r) ▸ k d S' μ' H' s (hl.up u) u (FinS.up u h)
  | exc x S' => exact fun c dx H' μ' u s e => h c dx σ H' μ' u s (hl.up u) e
  | stk => exact h

def mNext : MS := fun sd S => .nx sd S
def mSeq (a b : MS) : MS := fun sd S => match a sd S with
  | .nx sd1 S1 => b sd1 S1
  | .rt d S1 => .rt d S1
  | .bk sd1 S1 => .bk sd1 S1
  | .ct sd1 S1 => .ct sd1 S1
  | .exc x sd1 S1 => .exc x sd1 S1
  | .stk => .stk
theorem sb_nil : SB X W [] mNext := pss_nil.impF fun D σ H ⟨μ, S, sd, hs, hl, h⟩ => h σ H μ .refl hs hl
theorem sb_one {st : Stmt} {m : MS} (h : SS X W st m) : SB X W [st] m := pss_one h
theorem sb_cons {st : Stmt} {rest : List Stmt} {a b : MS} (h1 : SS X W st a) (h2 : SB X W rest b) : SB X W (st :: rest) (mSeq a b) := by
  refine (pss_cons h1 h2).impF fun D σ H ⟨μ, S, sd, hs, hl, h⟩ => ?_
  refine ⟨μ, S, sd, hs, hl, ?_⟩
  unfold mSeq at h
  generalize hr : a sd S = r at h
  cases r with
  | nx sd1 S1 => exact fun σ' H' μ' u s l => ⟨μ', S1, sd1, s, l, FinS.up u h⟩
  | rt d S1 => exact h
  | bk sd1 S1 => exact h
  | ct sd1 S1 => exact h
  | exc x sd1 S1 => exact h
  | stk => exact h
def mRet (m : ME) : MS := fun sd S => (m sd S).thenS sd fun d S1 => .rt d S1
theorem ss_ret {e : Expr} {m : ME} {pos : Pos} (h : SE X W e m) : SS X W (.Return (some e) pos) (mRet m) :=
  (ps_ret h).impF fun D σ H ⟨μ, S, sd, hs, hl, h⟩ => tE_then hs hl h fun d S1 μ1 v H1 hs1 hl1 u1 r1 h1 => h1 v H1 μ1 .refl hs1 r1
def mRetN : MS := fun sd S => .rt .non S
theorem ss_retN {pos : Pos} : SS X W (.Return none pos) mRetN := ps_retN.impF fun D σ H ⟨μ, S, sd, hs, hl, h⟩ => h .non H μ .refl hs .non
def mExpr (m : ME) : MS := fun sd S => (m sd S).thenS sd fun _ S1 => .nx sd S1
theorem ss_expr {e : Expr} {m : ME} {pos : Pos} (h : SE X W e m) (hs : swapsWith e none pos.line X.env = pure false := by rfl) : SS X W (.Expr e pos) (mExpr m) :=
  (ps_expr h hs).impF fun D σ H ⟨μ, S, sd, hs, hl, h⟩ => tE_then hs hl h fun d S1 μ1 v H1 hs1 hl1 u1 r1 h1 => h1 σ H1 μ1 .refl hs1 hl1
theorem ss_pass {pos : Pos} : SS X W (.Pass pos) mNext := ps_pass.impF fun D σ H ⟨μ, S, sd, hs, hl, h⟩ => h σ H μ .refl hs hl
def mBreak : MS := fun sd S => .bk sd S
def mCont : MS := fun sd S => .ct sd S
theorem ss_break {pos : Pos} : SS X W (.Break pos) mBreak := ps_break.impF fun D σ H ⟨μ, S, sd, hs, hl, h⟩ => h σ H μ .refl hs hl
theorem ss_continue {pos : Pos} : SS X W (.Continue pos) mCont := ps_continue.impF fun D σ H ⟨μ, S, sd, hs, hl, h⟩ => h σ H μ .refl hs hl
def mIf (t : MT) (a b : MS) : MS := fun sd S => (t sd S).thenS sd fun c S1 => if c = true then a sd S1 else b sd S1
theorem ss_if {c : Expr} {a b : List Stmt} {t : MT} {ma mb : MS} {pos : Pos} (hc : ST X W c t) (ha : SB X W a ma) (hb : SB X W b mb) : SS X W (.If c a b pos) (mIf t ma mb) :=
  (ps_if hc ha hb).impF fun D σ H ⟨μ, S, sd, hs, hl, h⟩ => tT_then hs hl h fun d S1 μ1 H1 hs1 hl1 u1 h1 => by
    cases d with
    | true => exact ⟨μ1, S1, sd, hs1, hl1, h1⟩
    | false => exact ⟨μ1, S1, sd, hs1, hl1, h1⟩

/-! ### targets -/
abbrev MG := D → Sl → List Cell → Res Sl
abbrev MGs := List D → Sl → List Cell → Res Sl
def tG (X : Cx) (W : WX) (g : MG) : TG := fun v σ H Q => ∃ μ S sd d, StoRep X.mg X.K μ S H ∧ SlRep X.K μ H sd σ ∧ RepV X.K μ H d v ∧ FinA X.mg X.K (fun μ H => SlRep X.K μ H) (fun c d H' => W c d σ H') μ H (g d sd S) Q
def tGs (X : Cx) (W : WX) (g : MGs) : TGs := fun vs σ H Q => ∃ μ S sd ds, StoRep X.mg X.K μ S H ∧ SlRep X.K μ H sd σ ∧ RepL X.K μ H ds vs ∧ FinA X.mg X.K (fun μ H => SlRep X.K μ H) (fun c d H' => W c d σ H') μ H (g ds sd S) Q
abbrev SG (X : Cx) (W : WX) (tg : Expr) (g : MG) : Prop := PG X tg (tG X W g)
theorem _root_.L2.PG.impF {X : Cx} {e : Expr} {t t' : TG} (h : PG X e t) (i : ∀ v σ H Q, t' v σ H Q → t v σ H Q) : PG X e t' := ⟨fun pins s σ H v u Q I r q => h.run pins s σ H v u Q I r (i v σ H Q q)⟩
def gN (i : Nat) : MG := fun d sd S => .ok (sd.set i (some d)) S
theorem sg_name (i : Nat) {x : Str} {pos : Pos} (hN : X.N.Nodup) (hi : X.N[i]? = some x := by rfl) (hx : Loc X.env.scope x := by first | exact Or.inl rfl | exact Or.inr rfl) (hf : X.fn x = true ∨ X.env.scope.names.lookup x = some .local := by first | exact .inl rfl | exact .inr rfl) : SG X W (.Name x pos) (gN i) :=
  (pg_name hN hi hx hf).impF fun v σ H Q ⟨μ, S, sd, d, hs, hl, r, h⟩ => h _ H μ .refl hs (hl.set r)
def mSet (i : Nat) (m : ME) : MS := fun sd S => (m sd S).thenS sd fun d S1 => .nx (sd.set i (some d)) S1
theorem ss_set (i : Nat) {x : Str} {e : Expr} {m : ME} {pos pos' : Pos} (hN : X.N.Nodup) (he : SE X W e m) (hi : X.N[i]? = some x := by rfl) (hx : Loc X.env.scope x := by first | exact Or.inl rfl | exact Or.inr rfl) (hs : swapsWith e (some (.Name x pos')) pos.line X.env = pure false := by rfl)
    (hf : X.fn x = true ∨ X.env.scope.names.lookup x = some .local := by first | exact .inl rfl | exact .inr rfl) : SS X W (.Assign [.Name x pos'] e pos) (mSet i m) :=
  (ps_set hN hi hx he hs hf).impF fun D σ H ⟨μ, S, sd, hs, hl, h⟩ => tE_then hs hl h fun d S1 μ1 v H1 hs1 hl1 u1 r1 h1 => h1 _ H1 μ1 .refl hs1 (hl1.set r1)
def mAsg (g : MG) (m : ME) : MS := fun sd S => (m sd S).thenS sd fun d S1 => (g d sd S1).thenS sd fun sd2 S2 => .nx sd2 S2
theorem ss_asg {tg e : Expr} {g : MG} {m : ME} {pos : Pos} (he : SE X W e m) (hg : SG X W tg g) (hs : swapsWithSole [tg] e pos.line X.env = pure false := by rfl) (hw : swappedStores [tg] e X.env = pure none := by rfl)
    (h1 : (assignEach [tg] X.env).map (·.2) = [assign tg X.env] := by rfl) : SS X W (.Assign [tg] e pos) (mAsg g m) :=
  (ps_asg he hg hs hw h1).impF fun D σ H ⟨μ, S, sd, hs, hl, h⟩ => tE_then hs hl h fun d S1 μ1 v H1 hs1 hl1 u1 r1 h1 => by
    refine ⟨μ1, S1, sd, d, hs1, hl1, r1, ?_⟩
    generalize hr : g d sd S1 = r at h1
    cases r with
    | ok sd2 S2 => exact fun σ' H' μ' u s l => h1 σ' H' μ' u s l
    | exc x S2 => exact fun c dx H' μ' u s e => h1 c dx σ H' μ' u s (hl1.up u) e
    | stk => exact h1
/-- name op= e -/
def mAug (i : Nat) (o : O2) (m : ME) : MS := fun sd S => (mVar i sd S).thenS sd fun d S1 => (m sd S1).thenS sd fun e S2 => (o d e S2).thenS sd fun f S3 => .nx (sd.set i (some f)) S3
theorem ss_aug (i : Nat) {x : Str} {e : Expr} {op : Operator} {o : O2} {m : ME} {pos pos' : Pos} (ho : OpD X W (inplaceOp op) o) (hN : X.N.Nodup) (he : SE X W e m) (hi : X.N[i]? = some x := by rfl) (hx : Loc X.env.scope x := by first | exact Or.inl rfl | exact Or.inr rfl)
    (hf : X.fn x = true ∨ X.env.scope.names.lookup x = some .local := by first | exact .inl rfl | exact .inr rfl) : SS X W (.AugAssign (.Name x pos') op e pos) (mAug i o m) := by
  obtain ⟨r, ho1, ho2⟩ := ho
  refine (ps_aug hN hi hx he (ti := r) (fun pins s σ H x y v u Q I r1 r2 h => ho1 pins s σ H x y v u Q I r1 r2 h) hf).impF fun D σ H ⟨μ, S, sd, hs, hl, h⟩ => ?_
  unfold mAug at h
  unfold mVar at h
  split at h
  · rename_i d e0
    obtain ⟨v, e1, rv⟩ := hl.at_ i d e0
    refine ⟨v, e1, ?_⟩
    refine tE_then hs hl h fun d2 S1 μ1 v2 H1 hs1 hl1 u1 r1 h1 => ho2 σ H1 μ1 S1 d d2 v v2 _ hs1 (rv.up u1) r1 ?_
    generalize hr : o d d2 S1 = r at h1
    cases r with
    | ok f S2 => exact fun w H' μ' u s r => h1 _ H' μ' u s ((hl1.up u).set r)
    | exc x S2 => exact fun c dx H' μ' u s e => h1 c dx σ H' μ' u s (hl1.up u) e
    | stk => exact h1
  · exact h.elim
end

/-! ### defs -/
def spM (mg : Str → Option Value) (K : PySem.W.Frag) (n : Nat) (m : List D → List Cell → Res D) : Sp := fun vs H Q E => vs.length = n ∧ ∃ μ S ds, StoRep mg K μ S H ∧ RepL K μ H ds vs ∧ FinA mg K (RepV K) E μ H (m ds S) Q
/-- a global def of the module: what it computes, at a level -/
def FnM (P : Program) (w : World) (K : PySem.W.Frag) (mg : Str → Option Value) (base : Heap) (k : Nat) (x : Str) (n : Nat) (m : List D → List Cell → Res D) : Prop :=
  ∃ f fd ps, mg x = some (.ref f) ∧ PySem.W.keepIn K (.ref f) = true ∧ Binds K fd ps [] ∧ FnOk P w K mg base (L2.CX P w) k f fd ps (spM mg K n m)
section
variable {P : Program} {w : World} {K : PySem.W.Frag} {mg : Str → Option Value} {base : Heap}
theorem FnM.mono {j k : Nat} {x : Str} {n : Nat} {m : List D → List Cell → Res D} (F : FnM P w K mg base j x n m) (h : j ≤ k) : FnM P w K mg base k x n m := by
  obtain ⟨f, fd, ps, h1, h2, h3, h4⟩ := F
  exact ⟨f, fd, ps, h1, h2, h3, h4.mono h⟩
def mCall (m : List D → List Cell → Res D) (a : MA) : ME := fun sd S => (a sd S).bind fun ds S1 => m ds S1
theorem se_fn {X : Cx} {W : WX} {k n : Nat} {x : Str} {m : List D → List Cell → Res D} {e : Expr} {es : List Expr} {ma : MA} {p pos : Pos} (F : FnM X.prog X.w X.K X.mg X.base k x n m) (hr : Room k X.A) (tk : Takes X W) (ha : SA X W (e :: es) ma) (hn : ∀ sd S ds S', ma sd S = .ok ds S' → ds.length = n)
    (hg : Gl X x := by rfl) (hdb : (x == ("__debug__" : Str)) = false := by decide) (he : starEach (e :: es) X.env = (false, eval e X.env) :: starEach es X.env := by rfl) (hpl : (backTo pos (starEach es X.env)).any (·.1) = false := by rfl) :
    SE X W (.Call (.Name x p) (e :: es) [] pos) (mCall m ma) := by
  obtain ⟨f, fd, ps, h1, h2, h3, h4⟩ := F
  refine (pe_callS h4 hr hg h1 h2 h3 (fun σ => passAt tk σ) ha hdb he hpl).impF fun σ H Q ⟨μ, S, sd, hs, hl, h⟩ => ?_
  refine ⟨μ, S, sd, hs, hl, ?_⟩
  have h' := FinA.bind (Rep := RepL X.K) h
  generalize hr : ma sd S = r at h h'
  cases r with
  | ok d S' => exact fun v H' μ' u s r => ⟨by rw [← r.length]; exact hn _ _ _ _ hr, μ', S', d, s, r, h' v H' μ' u s r⟩
  | exc x S' => exact h'
  | stk => exact h'
end
end Fx

namespace Fx
open PySem PySem.Spec PyProof.Rows L2

/-! ### ints -/
section
variable {X : Cx} {W : WX}
abbrev oAddI : O2 := oInt (fun _ _ => true) fun i j => .int (i + j)
abbrev oSub : O2 := oInt (fun _ _ => true) fun i j => .int (i - j)
theorem od_addI : OpD X W (binaryOp .Add) oAddI := od_int0 op_add fun _ _ _ _ => .int _
theorem od_iaddI : OpD X W (inplaceOp .Add) oAddI := od_int0 iop_add fun _ _ _ _ => .int _
theorem od_sub : OpD X W (binaryOp .Sub) oSub := od_int0 op_sub fun _ _ _ _ => .int _
theorem od_isub : OpD X W (inplaceOp .Sub) oSub := od_int0 iop_sub fun _ _ _ _ => .int _
def c64 (i : Int) : Bool := decide (-(2 ^ 64) < i) && decide (i < 2 ^ 64)
def cMul (i j : Int) : Bool := c64 i || c64 j
theorem c64_ok {i : Int} (h : c64 i = true) : -(2 ^ 64) < i ∧ i < 2 ^ 64 := by
  unfold c64 at h
  simpa using h
theorem cMul_ok {i j : Int} (h : cMul i j = true) : CMul i j := by
  unfold cMul at h
  rcases Bool.or_eq_true_iff.mp h with h | h
  · exact .inl (c64_ok h)
  · exact .inr (c64_ok h)
def oMul : O2 := oInt cMul fun i j => .int (i * j)
theorem od_mul : OpD X W (binaryOp .Mult) oMul := od_int op_mul (fun _ _ => cMul_ok) fun _ _ _ _ => .int _
theorem od_imul : OpD X W (inplaceOp .Mult) oMul := od_int iop_mul (fun _ _ => cMul_ok) fun _ _ _ _ => .int _
def cDiv (_ j : Int) : Bool := decide (0 < j) && decide (j < 1073741824)
theorem cDiv_ok {i j : Int} (h : cDiv i j = true) : CDiv i j := by
  unfold cDiv at h
  simp only [Bool.and_eq_true, decide_eq_true_eq] at h
  exact h
def oDiv : O2 := oInt cDiv fun i j => .int (i / j)
theorem od_div : OpD X W (binaryOp .FloorDiv) oDiv := od_int op_fdiv (fun _ _ => cDiv_ok) fun _ _ _ _ => .int _
theorem od_idiv : OpD X W (inplaceOp .FloorDiv) oDiv := od_int iop_fdiv (fun _ _ => cDiv_ok) fun _ _ _ _ => .int _
def oMod : O2 := oInt (fun _ j => decide (0 < j)) fun i j => .int (i % j)
theorem od_mod : OpD X W (binaryOp .Mod) oMod := od_int op_mod (fun _ _ h => of_decide_eq_true h) fun _ _ _ _ => .int _
theorem od_imod : OpD X W (inplaceOp .Mod) oMod := od_int iop_mod (fun _ _ h => of_decide_eq_true h) fun _ _ _ _ => .int _
def cPow (i j : Int) : Bool := decide (0 ≤ j) && decide (j ≤ 1000000) && decide (i.natAbs < 2 ^ 64)
theorem cPow_ok {i j : Int} (h : cPow i j = true) : CPow i j := by
  unfold cPow at h
  simp only [Bool.and_eq_true, decide_eq_true_eq] at h
  exact ⟨h.1.1, h.1.2, h.2⟩
def oPow : O2 := oInt cPow fun i j => .int (i ^ j.toNat)
theorem od_pow : OpD X W (binaryOp .Pow) oPow := od_int op_pow (fun _ _ => cPow_ok) fun _ _ _ _ => .int _
def oShl : O2 := oInt cPow fun i j => .int (i * 2 ^ j.toNat)
theorem od_shl : OpD X W (binaryOp .LShift) oShl := od_int op_shl (fun _ _ => cPow_ok) fun _ _ _ _ => .int _
theorem od_ishl : OpD X W (inplaceOp .LShift) oShl := od_int iop_shl (fun _ _ => cPow_ok) fun _ _ _ _ => .int _
def oShr : O2 := oInt (fun _ j => decide (0 ≤ j)) fun i j => .int (i / 2 ^ j.toNat)
theorem od_shr : OpD X W (binaryOp .RShift) oShr := od_int op_shr (fun _ _ h => of_decide_eq_true h) fun _ _ _ _ => .int _
theorem od_ishr : OpD X W (inplaceOp .RShift) oShr := od_int iop_shr (fun _ _ h => of_decide_eq_true h) fun _ _ _ _ => .int _
def oAnd : O2 := oInt (fun _ _ => true) fun i j => .int (Builtin.bitAnd i j)
def oOr : O2 := oInt (fun _ _ => true) fun i j => .int (Builtin.bitOr i j)
def oXor : O2 := oInt (fun _ _ => true) fun i j => .int (Builtin.bitXor i j)
theorem od_and : OpD X W (binaryOp .BitAnd) oAnd := od_int0 op_and fun _ _ _ _ => .int _
theorem od_or : OpD X W (binaryOp .BitOr) oOr := od_int0 op_or fun _ _ _ _ => .int _
theorem od_xor : OpD X W (binaryOp .BitXor) oXor := od_int0 op_xor fun _ _ _ _ => .int _
theorem od_iand : OpD X W (inplaceOp .BitAnd) oAnd := od_int0 iop_and fun _ _ _ _ => .int _
theorem od_ior : OpD X W (inplaceOp .BitOr) oOr := od_int0 iop_or fun _ _ _ _ => .int _
theorem od_ixor : OpD X W (inplaceOp .BitXor) oXor := od_int0 iop_xor fun _ _ _ _ => .int _
/-! comparisons of ints (and of texts) -/
def oLt : O2 := fun d e S => match d, e with
  | .int i, .int j => .ok (.bl (decide (i < j))) S
  | .str x, .str y => .ok (.bl (decide (x < y))) S
  | _, _ => .stk
def oGt : O2 := oInt (fun _ _ => true) fun i j => .bl (decide (j < i))
def oLe : O2 := fun d e S => match d, e with
  | .int i, .int j => .ok (.bl (decide (i ≤ j))) S
  | .str x, .str y => .ok (.bl (!decide (y < x))) S
  | _, _ => .stk
def oGe : O2 := oInt (fun _ _ => true) fun i j => .bl (decide (j ≤ i))
theorem od_lt : OpD X W (compareOp .Lt) oLt := by
  refine ⟨_, op_lt.or op_lt_str, fun σ H μ S d e x y Q hs rx ry h => ?_⟩
  unfold oLt at h
  split at h
  · exact .inl ⟨_, _, rx.inv_int, ry.inv_int, h _ H μ .refl hs (.bl _)⟩
  · exact .inr ⟨_, _, rx.inv_str, ry.inv_str, h _ H μ .refl hs (.bl _)⟩
  · exact h.elim
theorem od_le : OpD X W (compareOp .LtE) oLe := by
  refine ⟨_, op_le.or op_le_str, fun σ H μ S d e x y Q hs rx ry h => ?_⟩
  unfold oLe at h
  split at h
  · exact .inl ⟨_, _, rx.inv_int, ry.inv_int, h _ H μ .refl hs (.bl _)⟩
  · exact .inr ⟨_, _, rx.inv_str, ry.inv_str, h _ H μ .refl hs (.bl _)⟩
  · exact h.elim
theorem od_gt : OpD X W (compareOp .Gt) oGt := od_int0 op_gt fun _ _ _ _ => .bl _
theorem od_ge : OpD X W (compareOp .GtE) oGe := od_int0 op_ge fun _ _ _ _ => .bl _
/-! is None -/
def isNonD : D → Bool | .non => true | _ => false
theorem isNonD_ok {K : PySem.W.Frag} {μ : Mu} {H : Hp} {d : D} {x : V} (r : RepV K μ H d x) : decide (x = V.non) = isNonD d := by
  cases r <;> simp [isNonD]
def oIsN : O2 := fun d e S => match e with | .non => .ok (.bl (isNonD d)) S | _ => .stk
def oNotN : O2 := fun d e S => match e with | .non => .ok (.bl (!isNonD d)) S | _ => .stk
theorem od_isN : OpD X W (compareOp .Is) oIsN := by
  refine ⟨_, op_isN, fun σ H μ S d e x y Q hs rx ry h => ?_⟩
  unfold oIsN at h
  split at h
  · exact ⟨ry.inv_non, h _ H μ .refl hs (by rw [isNonD_ok rx]; exact .bl _)⟩
  · exact h.elim
theorem od_notN : OpD X W (compareOp .IsNot) oNotN := by
  refine ⟨_, op_notN, fun σ H μ S d e x y Q hs rx ry h => ?_⟩
  unfold oNotN at h
  split at h
  · exact ⟨ry.inv_non, h _ H μ .refl hs (by rw [isNonD_ok rx]; exact .bl _)⟩
  · exact h.elim
/-! unary -/
def mNeg (m : ME) : ME := fun sd S => (m sd S).bind fun d S1 => match d with | .int i => .ok (.int (-i)) S1 | _ => .stk
theorem se_neg {a : Expr} {m : ME} {pos : Pos} (ha : SE X W a m) : SE X W (.UnaryOp .USub a pos) (mNeg m) :=
  (pe_un un_neg ha).impF fun σ H Q ⟨μ, S, sd, hs, hl, h⟩ => tE_bind hs hl h fun d S1 μ1 v H1 hs1 hl1 u1 r1 h1 => by
    split at h1
    · exact ⟨_, r1.inv_int, h1 _ H1 μ1 .refl hs1 (.int _)⟩
    · exact h1.elim
end

/-! ### sequences of the store -/
def cellL (S : List Cell) (n : Nat) : Option (List D) := match S[n]? with
  | some (.lst xs) => some xs
  | _ => none
def seqD (S : List Cell) : D → Option (List D)
  | .tup xs => some xs
  | .cst xs => some xs
  | .loc n => cellL S n
  | _ => none
section
variable {mg : Str → Option Value} {K : PySem.W.Frag} {μ : Mu} {S : List Cell} {H : Hp}
theorem StoRep.cellL (h : StoRep mg K μ S H) {n : Nat} {a : Addr} {xs : List D} (e : μ[n]? = some a) (hc : cellL S n = some xs) : ∃ vs, Rd H a (.lst vs) ∧ RepL K μ H xs vs := by
  unfold Fx.cellL at hc
  split at hc
  · rename_i ys es
    cases hc
    obtain ⟨vs, h1, r⟩ := h.at_ n _ a es e
    exact ⟨vs, .inl h1, r⟩
  · cases hc
theorem StoRep.seqD (h : StoRep mg K μ S H) {d : D} {x : V} {xs : List D} (r : RepV K μ H d x) (hc : seqD S d = some xs) : ∃ p vs, x = .ref p ∧ (SqL K H p vs ∨ SqT K H p vs) ∧ RepL K μ H xs vs := by
  cases r with
  | tup ht rl => cases hc; exact ⟨_, _, rfl, .inr ht, rl⟩
  | cst ht rl => cases hc; exact ⟨_, _, rfl, .inl ht.sq, rl⟩
  | loc e =>
    obtain ⟨vs, h1, r⟩ := h.cellL e hc
    exact ⟨_, vs, rfl, .inl (.inl h1), r⟩
  | _ => cases hc
end
/-! ### truth -/
def truD (S : List Cell) : D → Option Bool
  | .non => some false
  | .bl b => some b
  | .int i => some (i != 0)
  | .str x => if x.length ≤ sizeLine then some (!x.isEmpty) else none
  | .tup xs => some (!xs.isEmpty)
  | .cst xs => some (!xs.isEmpty)
  | .loc n => (cellL S n).map fun xs => !xs.isEmpty
  | .adr _ => none
theorem RepL.isEmpty {K : PySem.W.Frag} {μ : Mu} {H : Hp} {ds : List D} {vs : List V} (r : RepL K μ H ds vs) : ds.isEmpty = vs.isEmpty := by cases r <;> rfl
section
variable {X : Cx} {W : WX}
theorem truD_ok {μ : Mu} {S : List Cell} {H : Hp} {d : D} {x : V} {b : Bool} (hs : StoRep X.mg X.K μ S H) (r : RepV X.K μ H d x) (h : truD S d = some b) : TruV X.K x H b := by
  cases r with
  | non => exact (Option.some.inj h).symm
  | bl c => exact (Option.some.inj h).symm
  | int i => exact (Option.some.inj h).symm
  | str y =>
    have h : (if y.length ≤ sizeLine then some (!y.isEmpty) else none) = some b := h
    split at h
    · rename_i hz
      refine ⟨by show y.toArray.size ≤ _; simpa using hz, ?_⟩
      rw [← Option.some.inj h]
      show _ = ((y.toArray.size : Int) != 0)
      cases y with
      | nil => rfl
      | cons a r =>
        simp only [List.isEmpty_cons, Bool.not_false, List.size_toArray, List.length_cons]
        symm
        exact bne_iff_ne.mpr (by omega)
    · cases h
  | tup ht rl => exact .inr (.inl ⟨_, ht, by rw [← rl.isEmpty]; exact (Option.some.inj h).symm⟩)
  | cst ht rl => exact .inl ⟨_, ht.sq, by rw [← rl.isEmpty]; exact (Option.some.inj h).symm⟩
  | loc e =>
    unfold truD at h
    obtain ⟨xs, hx, rfl⟩ := Option.map_eq_some_iff.mp h
    obtain ⟨vs, h1, rl⟩ := hs.cellL e hx
    exact .inl ⟨vs, .inl h1, by rw [rl.isEmpty]⟩
  | adr a => cases h
def optR {α : Type} (o : Option α) (S : List Cell) : Res α := match o with | some a => .ok a S | none => .stk
def mTru (m : ME) : MT := fun sd S => (m sd S).bind fun d S1 => optR (truD S1 d) S1
theorem st_tru {e : Expr} {m : ME} (he : SE X W e m) (hp : ∀ whole, isTrue e X.env whole = (do let v ← whole; standAt e.pos; holding [v] (truthy v)) := by intro _; rfl) : ST X W e (mTru m) :=
  (pt_truth he hp).impF fun σ H Q ⟨μ, S, sd, hs, hl, h⟩ => tE_bind (Rep' := RepB) hs hl h fun d S1 μ1 v H1 hs1 hl1 u1 r1 h1 => by
    unfold optR at h1
    split at h1
    · rename_i b hb
      exact ⟨b, truD_ok hs1 r1 hb, h1 b H1 μ1 .refl hs1 rfl⟩
    · exact h1.elim
def blD : D → Option Bool | .bl b => some b | _ => none
def mTst (m : ME) : MT := fun sd S => (m sd S).bind fun d S1 => optR (blD d) S1
theorem mTst_of {e : Expr} {m : ME} {t : TE} (h : ∀ σ H Q, tE X W m σ H Q → t σ H Q) (σ : St) (H : Hp) (Q : Bool → Hp → Prop) (q : tT X W (mTst m) σ H Q) : tTest t σ H Q := by
  obtain ⟨μ, S, sd, hs, hl, q⟩ := q
  refine h σ H _ (tE_bind (Rep' := RepB) hs hl q fun d S1 μ1 v H1 hs1 hl1 u1 r1 h1 => ?_)
  unfold optR blD at h1
  cases r1 with
  | bl b => exact ⟨b, rfl, h1 b H1 μ1 .refl hs1 rfl⟩
  | _ => exact h1.elim
theorem st_cmp {op : CmpOp} {o : O2} {a b : Expr} {ma mb : ME} {pos : Pos} (ho : OpD X W (compareOp op) o) (ha : SE X W a ma) (hb : SE X W b mb) (hm : behindInMarks op b = false := by first | exact nomark _ | rfl) : ST X W (.Compare a [op] [b] pos) (mTst (mBin o ma mb)) := by
  obtain ⟨r, h1, h2⟩ := ho
  exact (pt_cmpR h1 ha hb hm).impF (mTst_of (e := a) (bin_of ha hb h2))
/-! chains a op b op' c -/
def mChain (o o' : O2) (a b c : ME) : ME := fun sd S => (a sd S).bind fun d S1 => (b sd S1).bind fun e S2 => (o d e S2).bind fun z S3 => match z with
  | .bl k => if k = true then (c sd S3).bind fun f S4 => o' e f S4 else .ok (.bl false) S3
  | _ => .stk
theorem chain_of {a b c : Expr} {ma mb mc : ME} {o o' : O2} {r r' : R2} (ha : SE X W a ma) (hb : SE X W b mb) (hc : SE X W c mc)
    (ho : ∀ σ H μ S d e x y Q, StoRep X.mg X.K μ S H → RepV X.K μ H d x → RepV X.K μ H e y → FinA X.mg X.K (RepV X.K) (fun c d H' => W c d σ H') μ H (o d e S) Q → r x y H Q)
    (ho' : ∀ σ H μ S d e x y Q, StoRep X.mg X.K μ S H → RepV X.K μ H d x → RepV X.K μ H e y → FinA X.mg X.K (RepV X.K) (fun c d H' => W c d σ H') μ H (o' d e S) Q → r' x y H Q) (σ : St) (H : Hp) (Q : VK) (h : tE X W (mChain o o' ma mb mc) σ H Q) :
    tChain r r' (tE X W ma) (tE X W mb) (tE X W mc) σ H Q := by
  obtain ⟨μ, S, sd, hs, hl, h⟩ := h
  refine tE_bind hs hl h fun d S1 μ1 v H1 hs1 hl1 u1 r1 h1 => tE_bind hs1 hl1 h1 fun e S2 μ2 w H2 hs2 hl2 u2 r2 h2 => ?_
  refine ho σ H2 μ2 S2 d e v w _ hs2 (r1.up u2) r2 ?_
  have h3 := FinA.bind (Rep := RepV X.K) h2
  generalize hr : o d e S2 = ro at h2 h3
  cases ro with
  | ok z S3 =>
    intro zv H3 μ3 u3 hs3 r3
    have h4 := h3 zv H3 μ3 u3 hs3 r3
    cases r3 with
    | bl k =>
      refine ⟨k, rfl, ?_⟩
      cases k with
      | true =>
        simp only [if_true] at h4 ⊢
        exact tE_bind hs3 (hl2.up u3) h4 fun f S4 μ4 y H4 hs4 hl4 u4 r4 h5 => ho' σ H4 μ4 S4 e f w y Q hs4 ((r2.up u3).up u4) r4 h5
      | false =>
        simp only [Bool.false_eq_true, if_false] at h4 ⊢
        exact h4 _ H3 μ3 .refl hs3 (.bl _)
    | _ => exact h4.elim
  | exc x S3 => exact h3
  | stk => exact h3
theorem se_chain {op op' : CmpOp} {o o' : O2} {a b c : Expr} {ma mb mc : ME} {pos : Pos} (ho : OpD X W (compareOp op) o) (ho' : OpD X W (compareOp op') o') (ha : SE X W a ma) (hb : SE X W b mb) (hc : SE X W c mc)
    (hm : lastMarks [op, op'] [b, c] = false := by with_unfolding_all rfl) : SE X W (.Compare a [op, op'] [b, c] pos) (mChain o o' ma mb mc) := by
  obtain ⟨r, h1, h2⟩ := ho
  obtain ⟨r', h1', h2'⟩ := ho'
  exact (pe_chain h1 h1' ha hb hc hm).impF (chain_of ha hb hc h2 h2')
theorem st_chain {op op' : CmpOp} {o o' : O2} {a b c : Expr} {ma mb mc : ME} {pos : Pos} (ho : OpD X W (compareOp op) o) (ho' : OpD X W (compareOp op') o') (ha : SE X W a ma) (hb : SE X W b mb) (hc : SE X W c mc) (hm : lastMarks [op, op'] [b, c] = false := by with_unfolding_all rfl) : ST X W (.Compare a [op, op'] [b, c] pos) (mTst (mChain o o' ma mb mc)) := by
  obtain ⟨r, h1, h2⟩ := ho
  obtain ⟨r', h1', h2'⟩ := ho'
  exact (pt_chain h1 h1' ha hb hc hm).impF (mTst_of (e := a) (chain_of ha hb hc h2 h2'))
/-! and, or, not -/
abbrev SW (X : Cx) (W : WX) (e : Expr) (m : MT) : Prop := PW X e (tT X W m)
theorem _root_.L2.PW.impF {X : Cx} {e : Expr} {t t' : TT} (h : PW X e t) (i : ∀ σ H Q, t' σ H Q → t σ H Q) : PW X e t' := ⟨fun wh pins s σ H Q I q => h.run wh pins s σ H Q I (i σ H Q q)⟩
def mAnd (a b : MT) : MT := fun sd S => (a sd S).bind fun c S1 => if c = true then b sd S1 else .ok false S1
def mOr (a b : MT) : MT := fun sd S => (a sd S).bind fun c S1 => if c = true then .ok true S1 else b sd S1
def mNot (a : MT) : MT := fun sd S => (a sd S).bind fun c S1 => .ok (!c) S1
theorem sw_and1 {a : Expr} {ma : MT} {pos : Pos} (h : ST X W a ma) : SW X W (.BoolOp .And [a] pos) ma := pw_and1 h
theorem sw_or1 {a : Expr} {ma : MT} {pos : Pos} (h : ST X W a ma) : SW X W (.BoolOp .Or [a] pos) ma := pw_or1 h
theorem sw_and {a b : Expr} {rest : List Expr} {ma mb : MT} {pos : Pos} (h : ST X W a ma) (hb : SW X W (.BoolOp .And (b :: rest) pos) mb) : SW X W (.BoolOp .And (a :: b :: rest) pos) (mAnd ma mb) :=
  (pw_and h hb).impF fun σ H Q ⟨μ, S, sd, hs, hl, h⟩ => tT_bind hs hl h fun d S1 μ1 H1 hs1 hl1 u1 h1 => by
    cases d with
    | true => exact ⟨μ1, S1, sd, hs1, hl1, h1⟩
    | false => exact h1 false H1 μ1 .refl hs1 rfl
theorem sw_or {a b : Expr} {rest : List Expr} {ma mb : MT} {pos : Pos} (h : ST X W a ma) (hb : SW X W (.BoolOp .Or (b :: rest) pos) mb) : SW X W (.BoolOp .Or (a :: b :: rest) pos) (mOr ma mb) :=
  (pw_or h hb).impF fun σ H Q ⟨μ, S, sd, hs, hl, h⟩ => tT_bind hs hl h fun d S1 μ1 H1 hs1 hl1 u1 h1 => by
    cases d with
    | true => exact h1 true H1 μ1 .refl hs1 rfl
    | false => exact ⟨μ1, S1, sd, hs1, hl1, h1⟩
theorem st_sw {e : Expr} {m : MT} (h : SW X W e m) : ST X W e m := h.pt
theorem st_not {a : Expr} {ma : MT} {pos : Pos} (h : ST X W a ma) : ST X W (.UnaryOp .Not a pos) (mNot ma) :=
  (pt_not h).impF fun σ H Q ⟨μ, S, sd, hs, hl, h⟩ => tT_bind hs hl h fun d S1 μ1 H1 hs1 hl1 u1 h1 => h1 (!d) H1 μ1 .refl hs1 rfl
/-! .. as values -/
def mAndV (a b : ME) : ME := fun sd S => (a sd S).bind fun d S1 => match truD S1 d with
  | some true => b sd S1
  | some false => .ok d S1
  | none => .stk
def mOrV (a b : ME) : ME := fun sd S => (a sd S).bind fun d S1 => match truD S1 d with
  | some true => .ok d S1
  | some false => b sd S1
  | none => .stk
def mNotV (a : ME) : ME := fun sd S => (a sd S).bind fun d S1 => match truD S1 d with
  | some b => .ok (.bl (!b)) S1
  | none => .stk
theorem se_one {op : BoolOp} {a : Expr} {m : ME} {pos : Pos} (h : SE X W a m) : SE X W (.BoolOp op [a] pos) m := pe_one h
theorem se_and {a b : Expr} {rest : List Expr} {ma mb : ME} {pos : Pos} (h : SE X W a ma) (hb : SE X W (.BoolOp .And (b :: rest) pos) mb) : SE X W (.BoolOp .And (a :: b :: rest) pos) (mAndV ma mb) :=
  (pe_andT h hb).impF fun σ H Q ⟨μ, S, sd, hs, hl, h⟩ => tE_bind hs hl h fun d S1 μ1 v H1 hs1 hl1 u1 r1 h1 => by
    split at h1
    · rename_i e
      exact ⟨true, truD_ok hs1 r1 e, ⟨μ1, S1, sd, hs1, hl1, h1⟩⟩
    · rename_i e
      exact ⟨false, truD_ok hs1 r1 e, h1 _ H1 μ1 .refl hs1 r1⟩
    · exact h1.elim
theorem se_or {a b : Expr} {rest : List Expr} {ma mb : ME} {pos : Pos} (h : SE X W a ma) (hb : SE X W (.BoolOp .Or (b :: rest) pos) mb) : SE X W (.BoolOp .Or (a :: b :: rest) pos) (mOrV ma mb) :=
  (pe_orT h hb).impF fun σ H Q ⟨μ, S, sd, hs, hl, h⟩ => tE_bind hs hl h fun d S1 μ1 v H1 hs1 hl1 u1 r1 h1 => by
    split at h1
    · rename_i e
      exact ⟨true, truD_ok hs1 r1 e, h1 _ H1 μ1 .refl hs1 r1⟩
    · rename_i e
      exact ⟨false, truD_ok hs1 r1 e, ⟨μ1, S1, sd, hs1, hl1, h1⟩⟩
    · exact h1.elim
theorem se_not {a : Expr} {ma : ME} {pos : Pos} (h : SE X W a ma) : SE X W (.UnaryOp .Not a pos) (mNotV ma) :=
  (pe_notT h).impF fun σ H Q ⟨μ, S, sd, hs, hl, h⟩ => tE_bind hs hl h fun d S1 μ1 v H1 hs1 hl1 u1 r1 h1 => by
    split at h1
    · rename_i b e
      exact ⟨b, truD_ok hs1 r1 e, h1 _ H1 μ1 .refl hs1 (.bl _)⟩
    · exact h1.elim
def mIfE (t : MT) (a b : ME) : ME := fun sd S => (t sd S).bind fun c S1 => if c = true then a sd S1 else b sd S1
theorem se_ife {c a b : Expr} {t : MT} {ma mb : ME} {pos : Pos} (hc : ST X W c t) (ha : SE X W a ma) (hb : SE X W b mb) : SE X W (.IfExp c a b pos) (mIfE t ma mb) :=
  (pe_ifExp hc ha hb).impF fun σ H Q ⟨μ, S, sd, hs, hl, h⟩ => tT_bind hs hl h fun d S1 μ1 H1 hs1 hl1 u1 h1 => by
    cases d with
    | true => exact ⟨μ1, S1, sd, hs1, hl1, h1⟩
    | false => exact ⟨μ1, S1, sd, hs1, hl1, h1⟩
end

/-! ### built-in calls -/
abbrev OC := List D → List Cell → Res D
def CallD (X : Cx) (W : WX) (f : Value) (o : OC) : Prop :=
  ∃ r : List V → Hp → VK → Prop, CallR X f r ∧ ∀ σ H μ S ds vs Q, StoRep X.mg X.K μ S H → RepL X.K μ H ds vs → FinA X.mg X.K (RepV X.K) (fun c d H' => W c d σ H') μ H (o ds S) Q → r vs H Q
def mB (o : OC) (a : MA) : ME := fun sd S => (a sd S).bind fun ds S1 => o ds S1
section
variable {X : Cx} {W : WX}
theorem se_callB {id : String} {x : Str} {o : OC} {e : Expr} {es : List Expr} {ma : MA} {p pos : Pos} (hc : CallD X W (.builtin id) o) (hm : X.mg x = none) (ha : SA X W (e :: es) ma) (hv : bootBuiltins x = some (.builtin id) := by decide +kernel) (hg : Gl X x := by rfl) (hn : x ≠ "__name__" := by decide) (hdb : (x == ("__debug__" : Str)) = false := by decide)
    (he : starEach (e :: es) X.env = (false, eval e X.env) :: starEach es X.env := by rfl) (hpl : (backTo pos (starEach es X.env)).any (·.1) = false := by rfl) : SE X W (.Call (.Name x p) (e :: es) [] pos) (mB o ma) := by
  obtain ⟨r, h1, h2⟩ := hc
  exact (pe_callB h1 hg hm hv ha hn hdb he hpl).impF fun σ H Q ⟨μ, S, sd, hs, hl, h⟩ => tA_bind hs hl h fun ds S1 μ1 vs H1 hs1 hl1 u1 r1 h1 => h2 σ H1 μ1 S1 ds vs Q hs1 r1 h1
theorem se_callTy {T : String} {x : Str} {o : OC} {e : Expr} {es : List Expr} {ma : MA} {p pos : Pos} (hc : CallD X W (.type T) o) (hm : X.mg x = none) (ha : SA X W (e :: es) ma) (hv : bootBuiltins x = some (.type T) := by decide +kernel) (hg : Gl X x := by rfl) (hn : x ≠ "__name__" := by decide) (hdb : (x == ("__debug__" : Str)) = false := by decide)
    (he : starEach (e :: es) X.env = (false, eval e X.env) :: starEach es X.env := by rfl) (hpl : (backTo pos (starEach es X.env)).any (·.1) = false := by rfl) : SE X W (.Call (.Name x p) (e :: es) [] pos) (mB o ma) := by
  obtain ⟨r, h1, h2⟩ := hc
  exact (pe_callTy h1 hg hm hv ha hn hdb he hpl).impF fun σ H Q ⟨μ, S, sd, hs, hl, h⟩ => tA_bind hs hl h fun ds S1 μ1 vs H1 hs1 hl1 u1 r1 h1 => h2 σ H1 μ1 S1 ds vs Q hs1 r1 h1
theorem RepL.one {K : PySem.W.Frag} {μ : Mu} {H : Hp} {d : D} {vs : List V} (h : RepL K μ H [d] vs) : ∃ x, vs = [x] ∧ RepV K μ H d x := by
  cases h with
  | cons h r => cases r; exact ⟨_, rfl, h⟩
theorem RepL.two {K : PySem.W.Frag} {μ : Mu} {H : Hp} {d e : D} {vs : List V} (h : RepL K μ H [d, e] vs) : ∃ x y, vs = [x, y] ∧ RepV K μ H d x ∧ RepV K μ H e y := by
  cases h with
  | cons h r =>
    obtain ⟨y, rfl, h2⟩ := RepL.one r
    exact ⟨_, y, rfl, h, h2⟩
def oLen : OC := fun ds S => match ds with
  | [.str x] => if x.length ≤ sizeLine then .ok (.int x.length) S else .stk
  | [d] => match seqD S d with
    | some xs => .ok (.int xs.length) S
    | none => .stk
  | _ => .stk
theorem cd_len : CallD X W (.builtin "len") oLen := by
  refine ⟨_, call_len, fun σ H μ S ds vs Q hs r h => ?_⟩
  unfold oLen at h
  split at h
  · split at h
    · rename_i x hz
      obtain ⟨v, rfl, r1⟩ := r.one
      cases r1
      exact ⟨_, x.length, rfl, ⟨by show x.toArray.size ≤ _; simpa using hz, by show _ = x.toArray.size; simp⟩, h _ H μ .refl hs (.int _)⟩
    · exact h.elim
  · split at h
    · rename_i d _ xs e
      obtain ⟨v, rfl, r1⟩ := r.one
      obtain ⟨p, ys, rfl, hq, rl⟩ := hs.seqD r1 e
      refine ⟨_, xs.length, rfl, ?_, h _ H μ .refl hs (.int _)⟩
      rcases hq with hq | hq
      · exact .inl ⟨ys, hq, rl.length⟩
      · exact .inr ⟨ys, hq, rl.length⟩
    · exact h.elim
  · exact h.elim
def oAbs : OC := fun ds S => match ds with | [.int i] => .ok (.int (if i < 0 then -i else i)) S | _ => .stk
theorem cd_abs : CallD X W (.builtin "abs") oAbs := by
  refine ⟨_, call_abs, fun σ H μ S ds vs Q hs r h => ?_⟩
  unfold oAbs at h
  split at h
  · obtain ⟨v, rfl, r1⟩ := r.one
    cases r1
    exact ⟨_, rfl, h _ H μ .refl hs (.int _)⟩
  · exact h.elim
def oIntC : OC := fun ds S => match ds with | [.int i] => .ok (.int i) S | [.bl b] => .ok (.int (if b then 1 else 0)) S | _ => .stk
theorem cd_int : CallD X W (.type "int") oIntC := by
  refine ⟨_, call_int1, fun σ H μ S ds vs Q hs r h => ?_⟩
  unfold oIntC at h
  split at h
  · obtain ⟨v, rfl, r1⟩ := r.one
    cases r1
    exact .inl ⟨_, rfl, h _ H μ .refl hs (.int _)⟩
  · obtain ⟨v, rfl, r1⟩ := r.one
    cases r1
    exact .inr ⟨_, rfl, h _ H μ .refl hs (.int _)⟩
  · exact h.elim
def oListC : OC := fun ds S => match ds with
  | [d] => match seqD S d with
    | some xs => .ok (.loc S.length) (S ++ [.lst xs])
    | none => .stk
  | _ => .stk
theorem cd_list : CallD X W (.type "list") oListC := by
  refine ⟨_, call_list_of, fun σ H μ S ds vs Q hs r h => ?_⟩
  unfold oListC at h
  split at h
  · split at h
    · rename_i d xs e
      obtain ⟨v, rfl, r1⟩ := r.one
      obtain ⟨p, ys, rfl, hq, rl⟩ := hs.seqD r1 e
      exact ⟨p, ys, rfl, hq, fun l hn => h (.ref l) _ (μ ++ [l]) (up_new hn) (hs.alloc hn ⟨ys, upd_same, rl.up (up_new hn)⟩) (.loc (by rw [← hs.len]; simp))⟩
    · exact h.elim
  · exact h.elim
def oTupC : OC := fun ds S => match ds with
  | [d] => match seqD S d with
    | some xs => .ok (.tup xs) S
    | none => .stk
  | _ => .stk
theorem cd_tuple : CallD X W (.type "tuple") oTupC := by
  refine ⟨_, call_tuple_of, fun σ H μ S ds vs Q hs r h => ?_⟩
  unfold oTupC at h
  split at h
  · split at h
    · rename_i d xs e
      obtain ⟨v, rfl, r1⟩ := r.one
      cases r1 with
      | tup ht rl => cases e; exact ⟨_, _, rfl, .inr ⟨ht, h _ H μ .refl hs (.tup ht rl)⟩⟩
      | cst ht rl => cases e; exact ⟨_, _, rfl, .inl ⟨ht.sq, fun l hn => h (.ref l) _ μ (up_tmp hn) (hs.tmp hn) (.tup (SqT.of upd_same) (rl.up (up_tmp hn)))⟩⟩
      | loc en =>
        obtain ⟨ys, hq, rl⟩ := hs.cellL en e
        exact ⟨_, _, rfl, .inl ⟨.inl hq, fun l hn => h (.ref l) _ μ (up_tmp hn) (hs.tmp hn) (.tup (SqT.of upd_same) (rl.up (up_tmp hn)))⟩⟩
      | _ => cases e
    · exact h.elim
  · exact h.elim
def intsD : List D → Option (List Int)
  | [] => some []
  | .int i :: r => (intsD r).map (i :: ·)
  | _ => none
theorem intsD_ok {K : PySem.W.Frag} {μ : Mu} {H : Hp} : ∀ {ds : List D} {vs : List V} {ns : List Int}, RepL K μ H ds vs → intsD ds = some ns → vs = ns.map V.int
  | _, _, _, .nil, h => by cases h; rfl
  | _, _, ns, .cons (d := d) h r, e => by
    cases h with
    | int i =>
      unfold intsD at e
      obtain ⟨ms, e1, rfl⟩ := Option.map_eq_some_iff.mp e
      rw [intsD_ok r e1]; rfl
    | _ => cases e
def blsD : List D → Option (List Bool)
  | [] => some []
  | .bl i :: r => (blsD r).map (i :: ·)
  | _ => none
theorem blsD_ok {K : PySem.W.Frag} {μ : Mu} {H : Hp} : ∀ {ds : List D} {vs : List V} {ns : List Bool}, RepL K μ H ds vs → blsD ds = some ns → vs = ns.map V.bl
  | _, _, _, .nil, h => by cases h; rfl
  | _, _, ns, .cons (d := d) h r, e => by
    cases h with
    | bl i =>
      unfold blsD at e
      obtain ⟨ms, e1, rfl⟩ := Option.map_eq_some_iff.mp e
      rw [blsD_ok r e1]; rfl
    | _ => cases e
def lstD (S : List Cell) : D → Option (List D)
  | .loc n => cellL S n
  | .cst xs => some xs
  | _ => none
theorem lstD_ok {mg : Str → Option Value} {K : PySem.W.Frag} {μ : Mu} {S : List Cell} {H : Hp} (h : StoRep mg K μ S H) {d : D} {x : V} {xs : List D} (r : RepV K μ H d x) (hc : lstD S d = some xs) : ∃ p vs, x = .ref p ∧ SqL K H p vs ∧ RepL K μ H xs vs := by
  cases r with
  | loc e =>
    obtain ⟨vs, h1, r⟩ := h.cellL e hc
    exact ⟨_, vs, rfl, .inl h1, r⟩
  | cst ht rl => cases hc; exact ⟨_, _, rfl, ht.sq, rl⟩
  | _ => cases hc
theorem sumT_raw {prog : Program} {w : World} {A : Around} {E : Value → Shared → Prop} {s : Shared} {t : Addr} {its : List Value} {ns : List Int} {Q : Value → Shared → Prop} (hh : A.handled = none) (hl : s.heap.IsTuple t its.toArray) (hi : IntsAre its ns)
    (h : ∀ h' tk t', (∀ b o, s.heap.get? b = some o → h'.get? b = some o) → Q (.int ns.sum t') { s with heap := h', toks := tk }) : wpAny (model prog w) A (call (.builtin "sum") [.ref t]) Q E s := by
  obtain ⟨xs, e⟩ := hi.allInts.items
  have hn : numsOf (intItems xs).toList = ns := by rw [← e]; exact hi.numsOf
  rw [nums_intItems] at hn
  rw [e] at hl
  refine PySem.W.ktm_sumG hh hl fun h' tk t' hk => ?_
  have := h h' tk t' hk
  rw [preSum_eq, List.take_of_length_le (by simp), hn]; exact this
def oSum : OC := fun ds S => match ds with
  | [d] => match (seqD S d).bind intsD with
    | some ns => .ok (.int ns.sum) S
    | none => .stk
  | _ => .stk
theorem cr_sumS {X : Cx} (hc : X.calm = true) : CallR X (.builtin "sum") (fun vs H Q => ∃ (a : Addr) (ns : List Int), vs = [V.ref a] ∧ (SqL X.K H a (ns.map V.int) ∨ SqT X.K H a (ns.map V.int)) ∧ Q (.int ns.sum) H) := by
  intro pins s σ H vs us Q I r h
  obtain ⟨a, ns, rfl, hs | hs, q⟩ := h
  · exact cr_sum hc pins s σ H _ us Q I r ⟨a, ns, rfl, hs, q⟩
  · obtain ⟨its, rv, hl, _⟩ := I.tuple hs
    rw [Vals.ref1 r]
    exact sumT_raw (I.ok.hd hc) (show s.heap.IsTuple a its.toArray from hl) rv.ints fun h' tk t' hk => ⟨.int _, H, I.kept hk, ⟨_, rfl⟩, q⟩
theorem cd_sum (hc : X.calm = true) : CallD X W (.builtin "sum") oSum := by
  refine ⟨_, cr_sumS hc, fun σ H μ S ds vs Q hs r h => ?_⟩
  unfold oSum at h
  split at h
  · split at h
    · rename_i d ns e
      obtain ⟨v, rfl, r1⟩ := r.one
      obtain ⟨xs, e1, e2⟩ := Option.bind_eq_some_iff.mp e
      obtain ⟨p, ys, rfl, hq, rl⟩ := hs.seqD r1 e1
      rw [intsD_ok rl e2] at hq
      exact ⟨p, ns, rfl, hq, h _ H μ .refl hs (.int _)⟩
    · exact h.elim
  · exact h.elim
def oAll : OC := fun ds S => match ds with
  | [d] => match (lstD S d).bind blsD with
    | some bs => .ok (.bl (bs.all id)) S
    | none => .stk
  | _ => .stk
def oAny : OC := fun ds S => match ds with
  | [d] => match (lstD S d).bind blsD with
    | some bs => .ok (.bl (bs.any id)) S
    | none => .stk
  | _ => .stk
theorem cd_all (hc : X.calm = true) : CallD X W (.builtin "all") oAll := by
  refine ⟨_, cr_all hc, fun σ H μ S ds vs Q hs r h => ?_⟩
  unfold oAll at h
  split at h
  · split at h
    · rename_i d ns e
      obtain ⟨v, rfl, r1⟩ := r.one
      obtain ⟨xs, e1, e2⟩ := Option.bind_eq_some_iff.mp e
      obtain ⟨p, ys, rfl, hq, rl⟩ := lstD_ok hs r1 e1
      exact ⟨p, ns, rfl, by rw [← blsD_ok rl e2]; exact hq, h _ H μ .refl hs (.bl _)⟩
    · exact h.elim
  · exact h.elim
theorem cd_any (hc : X.calm = true) : CallD X W (.builtin "any") oAny := by
  refine ⟨_, cr_any hc, fun σ H μ S ds vs Q hs r h => ?_⟩
  unfold oAny at h
  split at h
  · split at h
    · rename_i d ns e
      obtain ⟨v, rfl, r1⟩ := r.one
      obtain ⟨xs, e1, e2⟩ := Option.bind_eq_some_iff.mp e
      obtain ⟨p, ys, rfl, hq, rl⟩ := lstD_ok hs r1 e1
      exact ⟨p, ns, rfl, by rw [← blsD_ok rl e2]; exact hq, h _ H μ .refl hs (.bl _)⟩
    · exact h.elim
  · exact h.elim
/-! isinstance(x, T), T a built-in type -/
def tyD (S : List Cell) : D → Option String
  | .non => some "NoneType"
  | .bl _ => some "bool"
  | .int _ => some "int"
  | .str _ => some "str"
  | .tup _ => some "tuple"
  | .cst _ => some "list"
  | .loc n => match S[n]? with | some (.lst _) => some "list" | some (.dic _) => some "dict" | _ => none
  | .adr _ => none
def isiD (S : List Cell) (T : String) (d : D) : Option Bool := (tyD S d).bind fun t => kitB t T
theorem tyD_ok {μ : Mu} {S : List Cell} {H : Hp} {d : D} {x : V} {t : String} (hs : StoRep X.mg X.K μ S H) (r : RepV X.K μ H d x) (h : tyD S d = some t) : TyX X.K H x (.type t) := by
  cases r with
  | non => cases h; exact .base .non
  | bl c => cases h; exact .base (.bl _)
  | int i => cases h; exact .base (.int _)
  | str y => cases h; exact .base (.str _)
  | tup ht rl =>
    cases h
    rcases ht with (ht | ⟨o, ht⟩) | ⟨o, its, n, hk, hc, _⟩
    · exact .base (.tup ht)
    · exact .fTuple ht
    · exact .kTuple hk hc
  | cst ht rl =>
    cases h
    rcases ht with ⟨o, ht⟩ | ⟨o, its, n, hk, hc, _⟩
    · exact .base (.frz ht)
    · exact .kList hk hc
  | @loc n a e =>
    unfold tyD at h
    simp only at h
    split at h
    · rename_i xs es
      cases h
      obtain ⟨vs, h1, _⟩ := hs.at_ n _ a es e
      exact .base (.lst h1)
    · rename_i kvs es
      cases h
      obtain ⟨ws, h1, _⟩ := hs.at_ n _ a es e
      exact .base (.dK h1)
    · cases h
  | adr a => cases h
def mIsi (T : String) (m : ME) : ME := fun sd S => (m sd S).bind fun d S1 => match isiD S1 T d with
  | some b => .ok (.bl b) S1
  | none => .stk
theorem se_isi {T : String} {x : Str} {e : Expr} {m : ME} {p p2 pos : Pos} (hm : X.mg "isinstance" = none) (hm2 : X.mg x = none) (he : SE X W e m) (hv : bootBuiltins x = some (.type T) := by decide +kernel) (hg : Gl X "isinstance" := by rfl) (hg2 : Gl X x := by rfl)
    (hn : x ≠ "__name__" := by decide) (hdb : (x == ("__debug__" : Str)) = false := by decide)
    (hst : starEach [e, .Name x p2] X.env = (false, eval e X.env) :: starEach [.Name x p2] X.env := by rfl) : SE X W (.Call (.Name "isinstance" p) [e, .Name x p2] [] pos) (mIsi T m) :=
  (pe_callB call_isi hg hm PyProof.Rows.boot_isinstance (pa_cons he (pa_cons (pe_bltn (v := .ty T) hg2 hm2 hv rfl hn hdb) pa_nil) hst) (he := hst)).impF fun σ H Q ⟨μ, S, sd, hs, hl, h⟩ => tE_bind hs hl h fun d S1 μ1 v H1 hs1 hl1 u1 r1 h1 => by
    split at h1
    · rename_i b e
      obtain ⟨t, e1, e2⟩ := Option.bind_eq_some_iff.mp e
      exact ⟨v, .ty T, .type t, .type T, b, rfl, .ty T, tyD_ok hs1 r1 e1, kit_ty e2, h1 _ H1 μ1 .refl hs1 (.bl _)⟩
    · exact h1.elim
end
end Fx

namespace Fx
open PySem PySem.Spec PyProof.Rows L2

/-! ### subscripts, slices -/
section
variable {X : Cx} {W : WX}
def oIx : O2 := fun d e S => match d, e with
  | .str x, .int i => if x.length ≤ sizeLine then optR ((atI x i).map fun c => .str [c]) S else .stk
  | d, .int i => optR ((seqD S d).bind fun xs => atI xs i) S
  | _, _ => .stk
theorem atI_rep {K : PySem.W.Frag} {μ : Mu} {H : Hp} {ds : List D} {vs : List V} {i : Int} {d : D} (r : RepL K μ H ds vs) (h : atI ds i = some d) : ∃ v, atI vs i = some v ∧ RepV K μ H d v := by
  unfold atI at h ⊢
  rw [← r.length]
  obtain ⟨j, e1, e2⟩ := Option.bind_eq_some_iff.mp h
  obtain ⟨v, e3, r3⟩ := r.getD e2
  exact ⟨v, by rw [e1]; exact e3, r3⟩
theorem ix_old {σ : St} {H : Hp} {μ : Mu} {S : List Cell} {d e : D} {x y : V} {Q : VK} (hs : StoRep X.mg X.K μ S H) (rx : RepV X.K μ H d x) (ry : RepV X.K μ H e y) (h : FinA X.mg X.K (RepV X.K) (fun c d H' => W c d σ H') μ H (oIx d e S) Q) : rIx X.K x y H Q := by
  unfold oIx at h
  split at h
  · rename_i z i
    split at h
    · rename_i hz
      unfold optR at h
      split at h
      · rename_i w ew
        obtain ⟨c, e1, rfl⟩ := Option.map_eq_some_iff.mp ew
        refine .inr (.inr ⟨_, i, c, rx.inv_str, ry.inv_int, by show z.toArray.size ≤ _; simpa using hz, by simpa using e1, h _ H μ .refl hs (.str [c])⟩)
      · exact h.elim
    · exact h.elim
  · rename_i i _
    unfold optR at h
    split at h
    · rename_i w ew
      obtain ⟨xs, e1, e2⟩ := Option.bind_eq_some_iff.mp ew
      obtain ⟨p, vs, rfl, hq, rl⟩ := hs.seqD rx e1
      obtain ⟨v, e3, r3⟩ := atI_rep rl e2
      rcases hq with hq | hq
      · exact .inl ⟨p, vs, i, v, rfl, ry.inv_int, hq, e3, h _ H μ .refl hs r3⟩
      · exact .inr (.inl ⟨p, vs, i, v, rfl, ry.inv_int, hq, e3, h _ H μ .refl hs r3⟩)
    · exact h.elim
  · exact h.elim
abbrev MO := Sl → List Cell → Res (Option Int)
theorem se_ix {a b : Expr} {ma mb : ME} {pos : Pos} (ha : SE X W a ma) (hb : SE X W b mb) (hp : PlainIx b := by intro _ _; rfl) : SE X W (.Subscript a b pos) (mBin oIx ma mb) :=
  (pe_ix ix_seq ha hb hp).impF (bin_of ha hb fun σ H μ S d e x y Q hs rx ry h => ix_old hs rx ry h)

def tO (X : Cx) (W : WX) (m : MO) : TO := fun σ H Q => ∃ μ S sd, StoRep X.mg X.K μ S H ∧ SlRep X.K μ H sd σ ∧ FinA X.mg X.K (fun _ _ a b => a = b) (fun c d H' => W c d σ H') μ H (m sd S) Q
abbrev SO (X : Cx) (W : WX) (e : Option Expr) (m : MO) : Prop := PO X e (tO X W m)
theorem _root_.L2.PO.impF {X : Cx} {e : Option Expr} {t t' : TO} (h : PO X e t) (i : ∀ σ H Q, t' σ H Q → t σ H Q) : PO X e t' := ⟨fun pins s σ H Q I q => h.run pins s σ H Q I (i σ H Q q)⟩
def mNoPart : MO := fun _ S => .ok none S
def intD : D → Option Int | .int i => some i | _ => none
def mPart (m : ME) : MO := fun sd S => (m sd S).bind fun d S1 => match intD d with | some i => .ok (some i) S1 | none => .stk
theorem so_none : SO X W none mNoPart := po_none.impF fun σ H Q ⟨μ, S, sd, hs, hl, h⟩ => h none H μ .refl hs rfl
theorem so_some {e : Expr} {m : ME} (he : SE X W e m) : SO X W (some e) (mPart m) :=
  (po_some he).impF fun σ H Q ⟨μ, S, sd, hs, hl, h⟩ => tE_bind (Rep' := fun _ _ a b => a = b) hs hl h fun d S1 μ1 v H1 hs1 hl1 u1 r1 h1 => by
    cases r1 with
    | int i => exact ⟨i, rfl, h1 (some i) H1 μ1 .refl hs1 rfl⟩
    | _ => exact h1.elim
theorem tO_bind {α δ : Type} {Rep' : Mu → Hp → α → δ → Prop} {m : MO} {f : Option Int → List Cell → Res α} {σ : St} {H : Hp} {μ : Mu} {S : List Cell} {sd : Sl} {Q : δ → Hp → Prop} {Q' : Option Int → Hp → Prop} (hs : StoRep X.mg X.K μ S H) (hl : SlRep X.K μ H sd σ)
    (h : FinA X.mg X.K Rep' (fun c d H' => W c d σ H') μ H ((m sd S).bind f) Q)
    (k : ∀ d S' μ' H', StoRep X.mg X.K μ' S' H' → SlRep X.K μ' H' sd σ → Up μ H μ' H' → FinA X.mg X.K Rep' (fun c d H' => W c d σ H') μ' H' (f d S') Q → Q' d H') : tO X W m σ H Q' := by
  refine ⟨μ, S, sd, hs, hl, ?_⟩
  have h' := FinA.bind (Rep := fun _ _ (a b : Option Int) => a = b) h
  generalize hr : m sd S = r at h h'
  cases r with
  | ok d S' => exact fun v H' μ' u s r => (show d = v from r) ▸ k d S' μ' H' s (hl.up u) u (h' v H' μ' u s r)
  | exc x S' => exact h'
  | stk => exact h'
def cutG {α : Type} (xs : List α) (lo hi : Option Int) : List α := (xs.drop (HT.sIx xs.length 0 lo)).take (HT.sIx xs.length xs.length hi - HT.sIx xs.length 0 lo)
theorem cutG_whole {α : Type} {xs : List α} {lo hi : Option Int} (h : HT.sIx xs.length 0 lo = 0 ∧ HT.sIx xs.length xs.length hi = xs.length) : cutG xs lo hi = xs := by
  unfold cutG
  rw [h.1, h.2]
  simp
def oSl (d : D) (lo hi : Option Int) (S : List Cell) : Res D := match d with
  | .tup xs => .ok (.tup (cutG xs lo hi)) S
  | .str x => if x.length ≤ sizeLine then .ok (.str (cutG x lo hi)) S else .stk
  | .cst xs => .ok (.loc S.length) (S ++ [.lst (cutG xs lo hi)])
  | .loc n => match cellL S n with
    | some xs => .ok (.loc S.length) (S ++ [.lst (cutG xs lo hi)])
    | none => .stk
  | _ => .stk
def mSlice (m : ME) (lo hi : MO) : ME := fun sd S => (m sd S).bind fun d S1 => (lo sd S1).bind fun l S2 => (hi sd S2).bind fun h S3 => oSl d l h S3
theorem se_slice {e : Expr} {lo hi : Option Expr} {m : ME} {ml mh : MO} {p2 pos : Pos} (he : SE X W e m) (hl : SO X W lo ml) (hu : SO X W hi mh) : SE X W (.Subscript e (.Slice lo hi none p2) pos) (mSlice m ml mh) :=
  (pe_slice (sl_list.or (sl_tupA.or sl_str)) he hl hu).impF fun σ H Q ⟨μ, S, sd, hs, hl, h⟩ => tE_bind hs hl h fun d S1 μ1 v H1 hs1 hl1 u1 r1 h1 =>
    tO_bind hs1 hl1 h1 fun l S2 μ2 H2 hs2 hl2 u2 h2 => tO_bind hs2 hl2 h2 fun u S3 μ3 H3 hs3 hl3 u3 h3 => by
      have r3 := (r1.up u2).up u3
      unfold oSl at h3
      split at h3
      · cases r3 with
        | tup ht rl =>
          rename_i a xs vs
          have el := rl.length
          refine .inr (.inl ⟨_, _, rfl, ht, fun hw => ?_, fun hw p hp => ?_⟩)
          · rw [← el] at hw
            rw [cutG_whole hw] at h3
            exact h3 _ H3 μ3 .refl hs3 (.tup ht rl)
          · refine h3 (.ref p) _ μ3 (up_tmp hp) (hs3.tmp hp) (.tup (SqT.of upd_same) ?_)
            unfold cutG cutV
            rw [el]
            exact ((rl.drop _).take _).up (up_tmp hp)
      · split at h3
        · rename_i x hz
          cases r3
          refine .inr (.inr ⟨_, rfl, by show x.toArray.size ≤ _; simpa using hz, ?_⟩)
          have ex : cutS ⟨x.toArray⟩ l u = ⟨(cutG x l u).toArray⟩ := by
            unfold cutS cutG
            have e0 : Str.length ⟨x.toArray⟩ = x.length := by show x.toArray.size = _; simp
            simp only [e0]
          rw [ex]
          exact h3 _ H3 μ3 .refl hs3 (.str _)
        · exact h3.elim
      · cases r3 with
        | cst hq rl =>
          refine .inl ⟨_, _, rfl, hq.sq, fun p hp => ?_⟩
          refine h3 (.ref p) _ (μ3 ++ [p]) (up_new hp) (hs3.alloc hp ⟨_, upd_same, ?_⟩) (.loc (by rw [← hs3.len]; simp))
          unfold cutG cutV
          rw [rl.length]
          exact ((rl.drop _).take _).up (up_new hp)
      · split at h3
        · rename_i n xs ec
          cases r3 with
          | loc en =>
            obtain ⟨vs, hq, rl⟩ := hs3.cellL en ec
            refine .inl ⟨_, vs, rfl, .inl hq, fun p hp => ?_⟩
            refine h3 (.ref p) _ (μ3 ++ [p]) (up_new hp) (hs3.alloc hp ⟨_, upd_same, ?_⟩) (.loc (by rw [← hs3.len]; simp))
            unfold cutG cutV
            rw [rl.length]
            exact ((rl.drop _).take _).up (up_new hp)
        · exact h3.elim
      · exact h3.elim
end

/-! ### + and * of ints, texts, tuples, lists -/
def mlst (S : List Cell) (n : Nat) : Option (List D) := match S[n]? with
  | some (.lst xs) => some xs
  | _ => none
theorem mlst_ok {mg : Str → Option Value} {K : PySem.W.Frag} {μ : Mu} {S : List Cell} {H : Hp} (h : StoRep mg K μ S H) {n : Nat} {a : Addr} {xs : List D} (e : μ[n]? = some a) (hc : mlst S n = some xs) : ∃ vs, H a = some (.lst vs) ∧ RepL K μ H xs vs := by
  unfold mlst at hc
  split at hc
  · rename_i ys es
    cases hc
    exact h.at_ n _ a es e
  · cases hc
section
variable {X : Cx} {W : WX}
def oAdd : O2 := fun d e S => match d, e with
  | .int i, .int j => .ok (.int (i + j)) S
  | .str x, .str y => if x.length + y.length ≤ sizeLine then .ok (.str (x ++ y)) S else .stk
  | .tup x, .tup y => if x.length + y.length ≤ sizeLine then .ok (.tup (x ++ y)) S else .stk
  | .loc n, .loc m => match mlst S n, mlst S m with
    | some x, some y => if x.length + y.length ≤ sizeLine then .ok (.loc S.length) (S ++ [.lst (x ++ y)]) else .stk
    | _, _ => .stk
  | _, _ => .stk
theorem str_app (x y : List Nat) : (⟨x.toArray⟩ : Str) ++ (⟨y.toArray⟩ : Str) = ⟨(x ++ y).toArray⟩ := by
  show (⟨x.toArray ++ y.toArray⟩ : Str) = _
  simp
theorem od_add : OpD X W (binaryOp .Add) oAdd := by
  refine ⟨_, (op_add.or op_add_str).or (op_catA.or op_cat), fun σ H μ S d e x y Q hs rx ry h => ?_⟩
  unfold oAdd at h
  split at h
  · exact .inl (.inl ⟨_, _, rx.inv_int, ry.inv_int, h _ H μ .refl hs (.int _)⟩)
  · split at h
    · rename_i hz
      refine .inl (.inr ⟨_, _, rx.inv_str, ry.inv_str, ?_, ?_⟩)
      · show (List.toArray _).size + (List.toArray _).size ≤ _
        simpa using hz
      · rw [str_app]
        exact h _ H μ .refl hs (.str _)
    · exact h.elim
  · split at h
    · rename_i xs ys hz
      cases rx with
      | tup hx rlx =>
        cases ry with
        | tup hy rly =>
          refine .inr (.inl ⟨_, _, _, _, rfl, rfl, hx, hy, by rw [← rlx.length, ← rly.length]; exact hz, fun e => ?_, fun _ e => ?_, fun _ _ p hp => ?_⟩)
          · subst e
            cases rlx
            exact h _ H μ .refl hs (.tup hy rly)
          · subst e
            cases rly
            rw [List.append_nil] at h
            exact h _ H μ .refl hs (.tup hx rlx)
          · exact h (.ref p) _ μ (up_tmp hp) (hs.tmp hp) (.tup (SqT.of upd_same) ((rlx.append rly).up (up_tmp hp)))
    · exact h.elim
  · split at h
    · rename_i n m xs ys e1 e2
      split at h
      · rename_i hz
        cases rx with
        | loc en =>
          cases ry with
          | loc em =>
            obtain ⟨vs, hv, rlx⟩ := mlst_ok hs en e1
            obtain ⟨ws, hw, rly⟩ := mlst_ok hs em e2
            refine .inr (.inr ⟨_, _, vs, ws, rfl, rfl, hv, hw, by rw [← rlx.length, ← rly.length]; exact hz, fun p hp => ?_⟩)
            exact h (.ref p) _ (μ ++ [p]) (up_new hp) (hs.alloc hp ⟨_, upd_same, (rlx.append rly).up (up_new hp)⟩) (.loc (by rw [← hs.len]; simp))
      · exact h.elim
    · exact h.elim
  · exact h.elim
/-- list * int -/
def oMulL : O2 := fun d e S => match d, e with
  | .int i, .int j => if cMul i j then .ok (.int (i * j)) S else .stk
  | .loc n, .int k => match mlst S n with
    | some x => if -(2 ^ 63) ≤ k ∧ k < 2 ^ 63 ∧ x.length * k.toNat ≤ sizeLine then .ok (.loc S.length) (S ++ [.lst (List.replicate k.toNat x).flatten]) else .stk
    | _ => .stk
  | _, _ => .stk
theorem rep_flat {K : PySem.W.Frag} {μ : Mu} {H : Hp} {ds : List D} {vs : List V} (r : RepL K μ H ds vs) : ∀ k, RepL K μ H (List.replicate k ds).flatten (List.replicate k vs).flatten
  | 0 => .nil
  | k + 1 => by
    rw [List.replicate_succ, List.replicate_succ, List.flatten_cons, List.flatten_cons]
    exact r.append (rep_flat r k)
theorem od_mulL : OpD X W (binaryOp .Mult) oMulL := by
  refine ⟨_, op_mul.or op_rep, fun σ H μ S d e x y Q hs rx ry h => ?_⟩
  unfold oMulL at h
  split at h
  · split at h
    · rename_i hc
      exact .inl ⟨_, _, rx.inv_int, ry.inv_int, cMul_ok hc, h _ H μ .refl hs (.int _)⟩
    · exact h.elim
  · split at h
    · split at h
      · rename_i k _ xs e1 hz
        cases rx with
        | loc en =>
          obtain ⟨vs, hv, rl⟩ := mlst_ok hs en e1
          refine .inr ⟨_, k, vs, rfl, ry.inv_int, hv, hz.1, hz.2.1, by rw [← rl.length]; exact hz.2.2, fun p hp => ?_⟩
          exact h (.ref p) _ (μ ++ [p]) (up_new hp) (hs.alloc hp ⟨_, upd_same, (rep_flat rl _).up (up_new hp)⟩) (.loc (by rw [← hs.len]; simp))
      · exact h.elim
    · exact h.elim
  · exact h.elim

/-! ### equality, to any depth -/
def pyD : Nat → List Cell → D → Option PyData
  | _, _, .non => some .none
  | _, _, .bl b => some (.bool b)
  | _, _, .int i => some (.int i)
  | _, _, .str x => if x.all (· < 0x110000) then some (.str ⟨x.toArray⟩) else none
  | n + 1, S, .tup l => (l.mapM (pyD n S)).map .tuple
  | n + 1, S, .cst l => (l.mapM (pyD n S)).map .list
  | n + 1, S, .loc k => (cellL S k).bind fun xs => (xs.mapM (pyD n S)).map .list
  | _, _, _ => none
end
end Fx

namespace Fx
open PySem PySem.Spec PyProof.Rows L2

/-! ### equality -/
section
variable {mg : Str → Option Value} {K : PySem.W.Frag} {μ : Mu} {S : List Cell} {H : Hp}
theorem pyL_ok {n : Nat} (ih : ∀ {d : D} {v : V} {p : PyData}, RepV K μ H d v → pyD n S d = some p → Dp K H v p ∧ p.canLay0 = true ∧ p.depth ≤ n) : ∀ {ds : List D} {vs : List V} {ps : List PyData}, RepL K μ H ds vs → ds.mapM (pyD n S) = some ps →
    DpAll K H vs ps ∧ PyData.canLayAll0 ps = true ∧ PyData.depthAll ps ≤ n
  | _, _, _, .nil, h => by
    cases h
    exact ⟨.nil, rfl, Nat.zero_le _⟩
  | d :: ds, v :: vs, ps, .cons h r, e => by
    rw [List.mapM_cons] at e
    cases e1 : pyD n S d with
    | none => rw [e1] at e; cases e
    | some p =>
      rw [e1] at e
      cases e2 : ds.mapM (pyD n S) with
      | none => rw [e2] at e; cases e
      | some qs =>
        rw [e2] at e
        cases e
        obtain ⟨a1, a2, a3⟩ := ih h e1
        obtain ⟨b1, b2, b3⟩ := pyL_ok @ih r e2
        refine ⟨.cons a1 b1, ?_, ?_⟩
        · show (PyData.canLay0 p && PyData.canLayAll0 qs) = true
          rw [a2, b2]; rfl
        · show max (PyData.depth p) (PyData.depthAll qs) ≤ n
          omega
theorem pyD_ok (hs : StoRep mg K μ S H) : ∀ (n : Nat) {d : D} {v : V} {p : PyData}, RepV K μ H d v → pyD n S d = some p → Dp K H v p ∧ p.canLay0 = true ∧ p.depth ≤ n := by
  intro n
  induction n with
  | zero =>
    intro d v p r e
    cases r with
    | non => cases e; exact ⟨.non, rfl, Nat.zero_le _⟩
    | bl b => cases e; exact ⟨.bl b, rfl, Nat.zero_le _⟩
    | int b => cases e; exact ⟨.int b, rfl, Nat.zero_le _⟩
    | str x =>
      have e : (if x.all (· < 0x110000) then some (PyData.str ⟨x.toArray⟩) else none) = some p := e
      split at e
      · rename_i hx
        cases e
        exact ⟨.str _, by show PyData.strOk _ = true; unfold PyData.strOk; simpa using hx, Nat.zero_le _⟩
      · cases e
    | tup _ _ => cases e
    | cst _ _ => cases e
    | loc _ => cases e
    | adr _ => cases e
  | succ n ih =>
    intro d v p r e
    cases r with
    | non => cases e; exact ⟨.non, rfl, Nat.zero_le _⟩
    | bl b => cases e; exact ⟨.bl b, rfl, Nat.zero_le _⟩
    | int b => cases e; exact ⟨.int b, rfl, Nat.zero_le _⟩
    | str x =>
      have e : (if x.all (· < 0x110000) then some (PyData.str ⟨x.toArray⟩) else none) = some p := e
      split at e
      · rename_i hx
        cases e
        exact ⟨.str _, by show PyData.strOk _ = true; unfold PyData.strOk; simpa using hx, Nat.zero_le _⟩
      · cases e
    | tup ht rl =>
      obtain ⟨ps, e1, rfl⟩ := Option.map_eq_some_iff.mp (show Option.map PyData.tuple (List.mapM (pyD n S) _) = some p from e)
      obtain ⟨a, b, c⟩ := pyL_ok (fun r e => ih r e) rl e1
      exact ⟨.tup ht a, b, Nat.succ_le_succ c⟩
    | cst ht rl =>
      obtain ⟨ps, e1, rfl⟩ := Option.map_eq_some_iff.mp (show Option.map PyData.list (List.mapM (pyD n S) _) = some p from e)
      obtain ⟨a, b, c⟩ := pyL_ok (fun r e => ih r e) rl e1
      exact ⟨.lst ht.sq a, b, Nat.succ_le_succ c⟩
    | loc en =>
      obtain ⟨xs, e0, e⟩ := Option.bind_eq_some_iff.mp (show Option.bind (cellL S _) (fun xs => (xs.mapM (pyD n S)).map PyData.list) = some p from e)
      obtain ⟨ps, e1, rfl⟩ := Option.map_eq_some_iff.mp e
      obtain ⟨vs, h1, rl⟩ := hs.cellL en e0
      obtain ⟨a, b, c⟩ := pyL_ok (fun r e => ih r e) rl e1
      exact ⟨.lst (.inl h1) a, b, Nat.succ_le_succ c⟩
    | adr _ => cases e
end
def eqD (S : List Cell) (d e : D) : Option Bool := (pyD 60 S d).bind fun p => (pyD 60 S e).map fun q => PyData.eqv p q
def oEq : O2 := fun d e S => match eqD S d e with | some b => .ok (.bl b) S | none => .stk
def oNe : O2 := fun d e S => match eqD S d e with | some b => .ok (.bl (!b)) S | none => .stk
section
variable {X : Cx} {W : WX}
theorem eqD_ok {μ : Mu} {S : List Cell} {H : Hp} {d e : D} {x y : V} {b : Bool} (hs : StoRep X.mg X.K μ S H) (rx : RepV X.K μ H d x) (ry : RepV X.K μ H e y) (h : eqD S d e = some b) :
    ∃ p q, Dp X.K H x p ∧ Dp X.K H y q ∧ SeqAt.shaped p = true ∧ SeqAt.shaped q = true ∧ b = PyData.eqv p q := by
  obtain ⟨p, e1, e2⟩ := Option.bind_eq_some_iff.mp h
  obtain ⟨q, e3, e4⟩ := Option.map_eq_some_iff.mp e2
  obtain ⟨a1, a2, a3⟩ := pyD_ok hs 60 rx e1
  obtain ⟨b1, b2, b3⟩ := pyD_ok hs 60 ry e3
  exact ⟨p, q, a1, b1, Bool.and_eq_true_iff.mpr ⟨a2, decide_eq_true (by omega)⟩, Bool.and_eq_true_iff.mpr ⟨b2, decide_eq_true (by omega)⟩, e4.symm⟩
theorem od_eq (hu : X.A.units + 64 < cLine) : OpD X W (compareOp .Eq) oEq := by
  refine ⟨_, op_eqD hu, fun σ H μ S d e x y Q hs rx ry h => ?_⟩
  unfold oEq at h
  split at h
  · rename_i b eb
    obtain ⟨p, q, h1, h2, h3, h4, rfl⟩ := eqD_ok hs rx ry eb
    exact ⟨p, q, h1, h2, h3, h4, h _ H μ .refl hs (.bl _)⟩
  · exact h.elim
theorem od_ne (hu : X.A.units + 64 < cLine) : OpD X W (compareOp .NotEq) oNe := by
  refine ⟨_, op_neD hu, fun σ H μ S d e x y Q hs rx ry h => ?_⟩
  unfold oNe at h
  split at h
  · rename_i b eb
    obtain ⟨p, q, h1, h2, h3, h4, rfl⟩ := eqD_ok hs rx ry eb
    exact ⟨p, q, h1, h2, h3, h4, h _ H μ .refl hs (.bl _)⟩
  · exact h.elim

/-! ### in, not in: flat items of a list or tuple; a sign or text in a text -/
def flatD : D → Bool | .non => true | .bl _ => true | .int _ => true | .str _ => true | _ => false
def eqF : D → D → Bool
  | .non, .non => true
  | .bl a, .bl b => a == b
  | .bl a, .int b => (if a then 1 else 0) == b
  | .int a, .bl b => a == (if b then 1 else 0)
  | .int a, .int b => a == b
  | .str a, .str b => a == b
  | _, _ => false
theorem flatD_ok {K : PySem.W.Frag} {μ : Mu} {H : Hp} {d : D} {x : V} (r : RepV K μ H d x) : flatV x = flatD d := by cases r <;> rfl
theorem str_beq (x y : List Nat) : ((⟨x.toArray⟩ : Str) == (⟨y.toArray⟩ : Str)) = (x == y) := by
  rw [Bool.eq_iff_iff]; simp
theorem eqF_ok {K : PySem.W.Frag} {μ : Mu} {H : Hp} {d e : D} {x y : V} (r : RepV K μ H d x) (r' : RepV K μ H e y) : eqV x y = eqF d e := by
  cases r <;> cases r' <;> first | rfl | exact str_beq _ _
theorem flatL_ok {K : PySem.W.Frag} {μ : Mu} {H : Hp} : ∀ {ds : List D} {vs : List V}, RepL K μ H ds vs → vs.all flatV = ds.all flatD
  | _, _, .nil => rfl
  | _, _, .cons h r => by rw [List.all_cons, List.all_cons, flatD_ok h, flatL_ok r]
theorem anyF_ok {K : PySem.W.Frag} {μ : Mu} {H : Hp} {d : D} {x : V} (rx : RepV K μ H d x) : ∀ {ds : List D} {vs : List V}, RepL K μ H ds vs → inV x vs = ds.any fun e => eqF e d
  | _, _, .nil => rfl
  | _, _, .cons h r => by
    have ih := anyF_ok rx r
    unfold inV at ih ⊢
    rw [List.any_cons, List.any_cons, eqF_ok h rx, ih]
def inD (S : List Cell) (d e : D) : Option Bool := match d, e with
  | .str [c], .str z => some (decide (c ∈ z))
  | d, e => (seqD S e).bind fun xs => if flatD d && xs.all flatD then some (xs.any fun y => eqF y d) else none
def oIn : O2 := fun d e S => match inD S d e with | some b => .ok (.bl b) S | none => .stk
def oNotIn : O2 := fun d e S => match inD S d e with | some b => .ok (.bl (!b)) S | none => .stk
theorem od_in : OpD X W (compareOp .In) oIn := by
  refine ⟨_, op_in_seq.or op_in_sign, fun σ H μ S d e x y Q hs rx ry h => ?_⟩
  unfold oIn at h
  split at h
  · rename_i b eb
    unfold inD at eb
    split at eb
    · cases eb
      exact .inr ⟨_, _, rx.inv_str, ry.inv_str, by simpa using h _ H μ .refl hs (.bl _)⟩
    · obtain ⟨xs, e1, e2⟩ := Option.bind_eq_some_iff.mp eb
      split at e2
      · rename_i hf
        cases e2
        simp only [Bool.and_eq_true] at hf
        obtain ⟨p, vs, rfl, hq, rl⟩ := hs.seqD ry e1
        refine .inl ⟨p, vs, rfl, hq, by rw [flatD_ok rx]; exact hf.1, by rw [flatL_ok rl]; exact hf.2, ?_⟩
        rw [anyF_ok rx rl]
        exact h _ H μ .refl hs (.bl _)
      · cases e2
  · exact h.elim
theorem od_notIn : OpD X W (compareOp .NotIn) oNotIn := by
  refine ⟨_, op_notIn_seq.or op_notIn_sign, fun σ H μ S d e x y Q hs rx ry h => ?_⟩
  unfold oNotIn at h
  split at h
  · rename_i b eb
    unfold inD at eb
    split at eb
    · cases eb
      exact .inr ⟨_, _, rx.inv_str, ry.inv_str, by simpa using h _ H μ .refl hs (.bl _)⟩
    · obtain ⟨xs, e1, e2⟩ := Option.bind_eq_some_iff.mp eb
      split at e2
      · rename_i hf
        cases e2
        simp only [Bool.and_eq_true] at hf
        obtain ⟨p, vs, rfl, hq, rl⟩ := hs.seqD ry e1
        refine .inl ⟨p, vs, rfl, hq, by rw [flatD_ok rx]; exact hf.1, by rw [flatL_ok rl]; exact hf.2, ?_⟩
        rw [anyF_ok rx rl]
        exact h _ H μ .refl hs (.bl _)
      · cases e2
  · exact h.elim

/-! ### lists changed: append, item stored -/
def mAppend (o a : ME) : ME := fun sd S => (o sd S).bind fun d S1 => match d with
  | .loc n => match mlst S1 n with
    | none => .stk
    | some _ => (a sd S1).bind fun e S2 => match mlst S2 n with
      | some xs => if xs.length < sizeLine then .ok .non (S2.set n (.lst (xs ++ [e]))) else .stk
      | none => .stk
  | _ => .stk
theorem se_append {o a : Expr} {mo ma : ME} {apos cpos : Pos} (ho : SE X W o mo) (ha : SE X W a ma)
    (hbase : attributeBase o "append" X.env (eval o X.env) = eval o X.env := by rfl)
    (hfew : ((backTo cpos (starEach [a] X.env)).all (fun x => !x.1) && (backToKw cpos (keywordEach [] X.env)).all (fun x => x.1.isSome)
      && decide (([a] : List Expr).length + ([] : List Keyword).length + (if ([] : List Keyword).isEmpty then 0 else 1) < 30)) = true := by rfl)
    (hline : (apos.endLine == cpos.line) = true := by rfl) (hst : starEach [a] X.env = (false, eval a X.env) :: starEach [] X.env := by rfl) (hplain : (backTo cpos (starEach [] X.env)).any (·.1) = false := by rfl) :
    SE X W (.Call (.Attribute o "append" apos) [a] [] cpos) (mAppend mo ma) :=
  (pe_bm PySem.F.plainAttrs_list PySem.F.slot_list_append PySem.F.type_list_append mt_append ho (pa_cons ha pa_nil hst) hbase hfew hline hst hplain).impF fun σ H Q ⟨μ, S, sd, hs, hl, h⟩ => tE_bind hs hl h fun d S1 μ1 v H1 hs1 hl1 u1 r1 h1 => by
    cases r1 with
    | loc en =>
      simp only at h1
      split at h1
      · exact h1.elim
      · rename_i n a xs0 e0
        obtain ⟨vs0, hv0, _⟩ := mlst_ok hs1 en e0
        refine ⟨.inl ⟨rfl, vs0, SqL.of hv0⟩, tE_bind hs1 hl1 h1 fun e S2 μ2 w H2 hs2 hl2 u2 r2 h2 => ?_⟩
        split at h2
        · split at h2
          · rename_i xs e1 hz
            have en2 := u2.mu _ _ en
            obtain ⟨vs, hv, rl⟩ := mlst_ok hs2 en2 e1
            refine ⟨_, vs, w, rfl, rfl, hv, by rw [← rl.length]; exact hz, ?_⟩
            exact h2 .non _ μ2 (up_put (List.mem_of_getElem? en2) hv) (hs2.put en2 hv (rl.snoc r2)) .non
          · exact h2.elim
        · exact h2.elim
    | _ => exact h1.elim
theorem tE_bindG {m : ME} {f : D → List Cell → Res Sl} {σ : St} {H : Hp} {μ : Mu} {S : List Cell} {sd : Sl} {Q : St → Hp → Prop} {Q' : VK} (hs : StoRep X.mg X.K μ S H) (hl : SlRep X.K μ H sd σ)
    (h : FinA X.mg X.K (fun μ H => SlRep X.K μ H) (fun c d H' => W c d σ H') μ H ((m sd S).bind f) Q)
    (k : ∀ d S' μ' v H', StoRep X.mg X.K μ' S' H' → SlRep X.K μ' H' sd σ → Up μ H μ' H' → RepV X.K μ' H' d v → FinA X.mg X.K (fun μ H => SlRep X.K μ H) (fun c d H' => W c d σ H') μ' H' (f d S') Q → Q' v H') : tE X W m σ H Q' := tE_bind hs hl h k
/-- o[i] = v of a list -/
def gSubL (o i : ME) : MG := fun v sd S => (o sd S).bind fun d S1 => (i sd S1).bind fun e S2 => match d, e with
  | .loc n, .int k => match mlst S2 n with
    | some xs => match ixN xs.length k with
      | some j => .ok sd (S2.set n (.lst (xs.set j v)))
      | none => .stk
    | none => .stk
  | _, _ => .stk
theorem sg_sub {o i : Expr} {mo mi : ME} {pos : Pos} (ho : SE X W o mo) (hi : SE X W i mi)
    (ha : ∀ v, assign (.Subscript o i pos) X.env v = (do
      let ov ← holding [v] (eval o X.env)
      let iv ← holding [v, ov] (eval i X.env)
      standAt pos
      holding [v, ov, iv] (setItem ov iv v)
      release [v, ov, iv] []) := by intro _; rfl) : SG X W (.Subscript o i pos) (gSubL mo mi) :=
  (pg_sub ho hi set_list ha).impF fun v σ H Q ⟨μ, S, sd, d, hs, hl, r, h⟩ => tE_bindG hs hl h fun d1 S1 μ1 v1 H1 hs1 hl1 u1 r1 h1 => tE_bindG hs1 hl1 h1 fun d2 S2 μ2 v2 H2 hs2 hl2 u2 r2 h2 => by
    split at h2
    · rename_i n k
      split at h2
      · rename_i xs e1
        split at h2
        · rename_i j ej
          cases r1 with
          | loc en =>
            have en2 := u2.mu _ _ en
            obtain ⟨vs, hv, rl⟩ := mlst_ok hs2 en2 e1
            refine ⟨_, vs, k, j, rfl, r2.inv_int, hv, by rw [← rl.length]; exact ej, ?_⟩
            have up := up_put (μ := μ2) (o := .lst (vs.set j v)) (List.mem_of_getElem? en2) hv
            exact h2 σ _ μ2 up (hs2.put en2 hv (rl.set (((r.up u1).up u2)) j)) (hl2.up up)
        · exact h2.elim
      · exact h2.elim
    · exact h2.elim

/-! ### targets of several names -/
def gsNil : MGs := fun ds sd S => match ds with | [] => .ok sd S | _ => .stk
def gsCons (g : MG) (r : MGs) : MGs := fun ds sd S => match ds with | d :: rest => (g d sd S).bind fun sd1 S1 => r rest sd1 S1 | _ => .stk
abbrev SGs (X : Cx) (W : WX) (tgs : List Expr) (g : MGs) : Prop := PGs X tgs (tGs X W g)
theorem _root_.L2.PGs.impF {X : Cx} {e : List Expr} {t t' : TGs} (h : PGs X e t) (i : ∀ v σ H Q, t' v σ H Q → t v σ H Q) : PGs X e t' := ⟨fun pins s σ H v u Q I r q => h.run pins s σ H v u Q I r (i v σ H Q q)⟩
theorem sgs_nil : SGs X W [] gsNil := pgs_nil.impF fun vs σ H Q ⟨μ, S, sd, ds, hs, hl, r, h⟩ => by
  cases r with
  | nil => exact ⟨rfl, h σ H μ .refl hs hl⟩
  | cons _ _ => exact h.elim
/-- a target that raises nothing -/
def NoEx (g : MG) : Prop := ∀ d sd S x S', g d sd S ≠ .exc x S'
theorem sgs_cons {e : Expr} {es : List Expr} {g : MG} {r : MGs} (h1 : SG X W e g) (h2 : SGs X W es r) (nx : ∀ d sd S x S', g d sd S ≠ .exc x S') (nr : ∀ d sd S x S', r d sd S ≠ .exc x S')
    (hst : (assignEach (e :: es) X.env).map (·.2) = assign e X.env :: (assignEach es X.env).map (·.2) := by rfl) : SGs X W (e :: es) (gsCons g r) :=
  (pgs_cons h1 h2 hst).impF fun vs σ H Q ⟨μ, S, sd, ds, hs, hl, rp, h⟩ => by
    cases rp with
    | nil => exact h.elim
    | @cons d v ds vs rd rr =>
      refine ⟨v, vs, rfl, μ, S, sd, d, hs, hl, rd, ?_⟩
      have h : FinA X.mg X.K (fun μ H => SlRep X.K μ H) (fun c d H' => W c d σ H') μ H ((g d sd S).bind fun sd1 S1 => r ds sd1 S1) Q := h
      generalize hr : g d sd S = res at h
      cases res with
      | ok sd1 S1 =>
        intro σ' H' μ' u s l
        refine ⟨μ', S1, sd1, ds, s, l, rr.up u, ?_⟩
        have h' : FinA X.mg X.K (fun μ H => SlRep X.K μ H) (fun c d H' => W c d σ H') μ' H' (r ds sd1 S1) Q := FinA.up u h
        generalize hr2 : r ds sd1 S1 = res2 at h'
        cases res2 with
        | ok sd2 S2 => exact h'
        | exc x S2 => exact absurd hr2 (nr _ _ _ _ _)
        | stk => exact h'
      | exc x S1 => exact absurd hr (nx _ _ _ _ _)
      | stk => exact h
def gTupD (n : Nat) (g : MGs) : MG := fun d sd S => match d with | .tup ds => if ds.length = n then g ds sd S else .stk | _ => .stk
theorem sg_tup {es : List Expr} {k : Nat} {g : MGs} {n : Nat} {pos : Pos} (hc : X.calm = true) (h : SGs X W es g) (hn : (assignEach es X.env).length = n := by rfl) (hst : (assignEach es X.env).findIdx? (·.1) = none := by rfl) : SG X W (.Tuple es k pos) (gTupD n g) :=
  (pg_tup hc h hn hst).impF fun v σ H Q ⟨μ, S, sd, d, hs, hl, r, h⟩ => by
    unfold gTupD at h
    split at h
    · split at h
      · rename_i ds hz
        cases r with
        | tup ht rl => exact ⟨_, _, rfl, ht, by rw [← rl.length]; exact hz, μ, S, sd, ds, hs, hl, rl, h⟩
      · exact h.elim
    · exact h.elim
theorem gN_noex (i : Nat) : ∀ d sd S x S', gN i d sd S ≠ .exc x S' := fun _ _ _ _ _ h => by cases h
theorem gsNil_noex : ∀ d sd S x S', gsNil d sd S ≠ .exc x S' := fun d _ _ _ _ h => by cases d <;> cases h
theorem gsCons_noex {g : MG} {r : MGs} (h1 : ∀ d sd S x S', g d sd S ≠ .exc x S') (h2 : ∀ d sd S x S', r d sd S ≠ .exc x S') : ∀ d sd S x S', gsCons g r d sd S ≠ .exc x S' := fun d sd S x S' h => by
  cases d with
  | nil => cases h
  | cons d ds =>
    have h : ((g d sd S).bind fun sd1 S1 => r ds sd1 S1) = .exc x S' := h
    generalize hr : g d sd S = res at h
    cases res with
    | ok sd1 S1 => exact h2 _ _ _ _ _ h
    | exc y S1 => exact h1 _ _ _ _ _ hr
    | stk => cases h
theorem gTupD_noex {n : Nat} {g : MGs} (h1 : ∀ d sd S x S', g d sd S ≠ .exc x S') : ∀ d sd S x S', gTupD n g d sd S ≠ .exc x S' := fun d sd S x S' h => by
  unfold gTupD at h
  split at h
  · split at h
    · exact h1 _ _ _ _ _ h
    · cases h
  · cases h
/-- a, b = x, y of plain local names -/
def mPar (i j : Nat) (a : MA) : MS := fun sd S => match a sd S with
  | .ok [d, e] S1 => .nx ((sd.set i (some d)).set j (some e)) S1
  | .exc x S1 => .exc x sd S1
  | _ => .stk
theorem ss_par (i j : Nat) {x y : Str} {a b : Expr} {ma : MA} {px py pt pos : Pos} {kt k2 pt2} (hc : X.calm = true) (hN : X.N.Nodup) (ha : SA X W [a, b] ma) (hij : i ≠ j := by decide) (hi : X.N[i]? = some x := by rfl) (hj : X.N[j]? = some y := by rfl)
    (hx : X.env.scope.names.lookup x = some .local := by rfl) (hy : X.env.scope.names.lookup y = some .local := by rfl) (hw : swappedStores [.Tuple [.Name x px, .Name y py] kt pt] (.Tuple [a, b] k2 pt2) X.env = pure (some [x, y]) := by rfl)
    (hs : swapsWithSole [.Tuple [.Name x px, .Name y py] kt pt] (.Tuple [a, b] k2 pt2) pos.line X.env = pure false := by rfl) : SS X W (.Assign [.Tuple [.Name x px, .Name y py] kt pt] (.Tuple [a, b] k2 pt2) pos) (mPar i j ma) :=
  (ps_par hc hN hi hj hij hx hy ha hw hs).impF fun D σ H ⟨μ, S, sd, hs, hl, h⟩ => by
    refine ⟨μ, S, sd, hs, hl, ?_⟩
    unfold mPar at h
    split at h
    · rename_i d e S1 er
      rw [er]
      intro vs H1 μ1 u1 s1 r1
      obtain ⟨v, w, rfl, r2, r3⟩ := r1.two
      exact ⟨v, w, rfl, h _ H1 μ1 u1 s1 (((hl.up u1).set r2).set r3)⟩
    · rename_i x S1 er
      rw [er]
      exact fun c dx H' μ' u s e => h c dx σ H' μ' u s (hl.up u) e
    · exact h.elim
def mPar3 (i j l : Nat) (a : MA) : MS := fun sd S => match a sd S with
  | .ok [d, e, f] S1 => .nx (((sd.set i (some d)).set j (some e)).set l (some f)) S1
  | .exc x S1 => .exc x sd S1
  | _ => .stk
theorem RepL.three {K : PySem.W.Frag} {μ : Mu} {H : Hp} {d e f : D} {vs : List V} (h : RepL K μ H [d, e, f] vs) : ∃ x y z, vs = [x, y, z] ∧ RepV K μ H d x ∧ RepV K μ H e y ∧ RepV K μ H f z := by
  cases h with
  | cons h r =>
    obtain ⟨y, z, rfl, h2, h3⟩ := RepL.two r
    exact ⟨_, y, z, rfl, h, h2, h3⟩
theorem ss_par3 (i j l : Nat) {x y z : Str} {a b c : Expr} {ma : MA} {px py pz pt pos : Pos} {kt k2 pt2} (hc : X.calm = true) (hN : X.N.Nodup) (ha : SA X W [a, b, c] ma) (hij : i ≠ j := by decide) (hil : i ≠ l := by decide) (hjl : j ≠ l := by decide) (hi : X.N[i]? = some x := by rfl) (hj : X.N[j]? = some y := by rfl) (hl : X.N[l]? = some z := by rfl)
    (hx : X.env.scope.names.lookup x = some .local := by rfl) (hy : X.env.scope.names.lookup y = some .local := by rfl) (hz : X.env.scope.names.lookup z = some .local := by rfl) (hw : swappedStores [.Tuple [.Name x px, .Name y py, .Name z pz] kt pt] (.Tuple [a, b, c] k2 pt2) X.env = pure (some [x, y, z]) := by rfl)
    (hs : swapsWithSole [.Tuple [.Name x px, .Name y py, .Name z pz] kt pt] (.Tuple [a, b, c] k2 pt2) pos.line X.env = pure false := by rfl) : SS X W (.Assign [.Tuple [.Name x px, .Name y py, .Name z pz] kt pt] (.Tuple [a, b, c] k2 pt2) pos) (mPar3 i j l ma) :=
  (ps_par3 hc hN hi hj hl hij hil hjl hx hy hz ha hw hs).impF fun D σ H ⟨μ, S, sd, hs, hl, h⟩ => by
    refine ⟨μ, S, sd, hs, hl, ?_⟩
    unfold mPar3 at h
    split at h
    · rename_i d e f S1 er
      rw [er]
      intro vs H1 μ1 u1 s1 r1
      obtain ⟨v, w, z, rfl, r2, r3, r4⟩ := r1.three
      exact ⟨v, w, z, rfl, h _ H1 μ1 u1 s1 ((((hl.up u1).set r2).set r3).set r4)⟩
    · rename_i x S1 er
      rw [er]
      exact fun c dx H' μ' u s e => h c dx σ H' μ' u s (hl.up u) e
    · exact h.elim
end
end Fx

namespace Fx
open PySem PySem.Spec PyProof.Rows L2

/-! ### what is walked -/
structure ItD where
  xs : List D
  g : Option Nat
def ItD.okAt (it : ItD) (S : List Cell) : Prop := match it.g with | none => True | some n => cellL S n = some it.xs
def RepI (mg : Str → Option Value) (K : PySem.W.Frag) (μ : Mu) (H : Hp) (it : ItD) (J : It) : Prop :=
  ∀ μ2 H2 S2, Up μ H μ2 H2 → StoRep mg K μ2 S2 H2 → it.okAt S2 → ∀ i,
    (∀ d, it.xs[i]? = some d → J.go i H2 ∧ ∀ x H3, J.yld i H2 x H3 → Up μ2 H2 μ2 H3 ∧ StoRep mg K μ2 S2 H3 ∧ RepV K μ2 H3 d x) ∧ (it.xs.length ≤ i → J.stop i H2)
abbrev MI := Sl → List Cell → Res ItD
def tI (X : Cx) (W : WX) (m : MI) : TI := fun σ H Q => ∃ μ S sd, StoRep X.mg X.K μ S H ∧ SlRep X.K μ H sd σ ∧ FinA X.mg X.K (RepI X.mg X.K) (fun c d H' => W c d σ H') μ H (m sd S) Q
abbrev SI (X : Cx) (W : WX) (tg iter : Expr) (m : MI) : Prop := PI X tg iter (tI X W m)
theorem _root_.L2.PI.impF {X : Cx} {tg e : Expr} {t t' : TI} (h : PI X tg e t) (i : ∀ σ H Q, t' σ H Q → t σ H Q) : PI X tg e t' := ⟨fun pins s σ H Q I q => h.run pins s σ H Q I (i σ H Q q)⟩
theorem _root_.L2.PI.orF {X : Cx} {tg e : Expr} {t t' : TI} (h : PI X tg e t) (h' : PI X tg e t') : PI X tg e (fun σ H R => t σ H R ∨ t' σ H R) := ⟨fun pins s σ H Q I q => q.elim (h.run pins s σ H Q I) (h'.run pins s σ H Q I)⟩
section
variable {X : Cx} {W : WX} {mg : Str → Option Value} {K : PySem.W.Frag} {μ : Mu} {S : List Cell} {H : Hp}
theorem repI_tup {a : Addr} {ds : List D} {vs : List V} (ht : SqT K H a vs) (rl : RepL K μ H ds vs) : RepI mg K μ H ⟨ds, none⟩ (Itt K a) := by
  intro μ2 H2 S2 u s ok i
  have ht2 := u.sqT ht
  refine ⟨fun d e => ?_, fun hi => ⟨vs, ht2, by rw [← rl.length]; exact hi⟩⟩
  obtain ⟨v, e1, r⟩ := (rl.up u).getD e
  refine ⟨⟨vs, v, ht2, e1⟩, fun x H3 y => ?_⟩
  obtain ⟨rfl, y⟩ := y
  have := y vs ht2
  rw [e1] at this
  cases this
  exact ⟨.refl, s, r⟩
theorem repI_lst {a : Addr} {n : Nat} {ds : List D} (en : μ[n]? = some a) : RepI mg K μ H ⟨ds, some n⟩ (Itl K a) := by
  intro μ2 H2 S2 u s ok i
  obtain ⟨vs, hq, rl⟩ := s.cellL (u.mu _ _ en) (show cellL S2 n = some ds from ok)
  have hq2 : SqL K H2 a vs := .inl hq
  refine ⟨fun d e => ?_, fun hi => ⟨vs, hq2, by rw [← rl.length]; exact hi⟩⟩
  obtain ⟨v, e1, r⟩ := rl.getD e
  refine ⟨⟨vs, v, hq2, e1⟩, fun x H3 y => ?_⟩
  obtain ⟨rfl, y⟩ := y
  have := y vs hq2
  rw [e1] at this
  cases this
  exact ⟨.refl, s, r⟩
theorem repI_cst {a : Addr} {ds : List D} {vs : List V} (ht : SqF K H a vs) (rl : RepL K μ H ds vs) : RepI mg K μ H ⟨ds, none⟩ (Itl K a) := by
  intro μ2 H2 S2 u s ok i
  have ht2 := (u.toUpR.sqF ht).sq
  refine ⟨fun d e => ?_, fun hi => ⟨vs, ht2, by rw [← rl.length]; exact hi⟩⟩
  obtain ⟨v, e1, r⟩ := (rl.up u).getD e
  refine ⟨⟨vs, v, ht2, e1⟩, fun x H3 y => ?_⟩
  obtain ⟨rfl, y⟩ := y
  have := y vs ht2
  rw [e1] at this
  cases this
  exact ⟨.refl, s, r⟩
def rngD (lo : Int) (n : Nat) : List D := (List.range n).map fun k => .int (lo + (k : Nat))
theorem repI_rng {lo : Int} {n : Nat} : RepI mg K μ H ⟨rngD lo n, none⟩ (Itr lo n) := by
  intro μ2 H2 S2 u s ok i
  refine ⟨fun d e => ?_, fun hi => show n ≤ i by simpa [rngD] using hi⟩
  have e' : (rngD lo n)[i]? = some d := e
  have hi : i < n := by
    have := (List.getElem?_eq_some_iff.mp e').1
    simpa [rngD] using this
  have ed : d = .int (lo + (i : Nat)) := by
    simp [rngD, hi] at e'
    exact e'.symm
  refine ⟨hi, fun x H3 y => ?_⟩
  obtain ⟨rfl, rfl⟩ := y
  subst ed
  exact ⟨.refl, s, .int _⟩
theorem repI_str {x : List Nat} : RepI mg K μ H ⟨x.map fun c => .str [c], none⟩ (Its ⟨x.toArray⟩) := by
  intro μ2 H2 S2 u s ok i
  refine ⟨fun d e => ?_, fun hi => by show x.toArray.size ≤ i; simpa using hi⟩
  have e : (x.map fun c => D.str [c])[i]? = some d := e
  rw [List.getElem?_map] at e
  obtain ⟨c, e1, e2⟩ := Option.map_eq_some_iff.mp e
  subst e2
  refine ⟨by show i < x.toArray.size; simpa using (List.getElem?_eq_some_iff.mp e1).1, fun v H3 y => ?_⟩
  obtain ⟨eH, c2, h2, h3⟩ := y
  subst eH h3
  have h2 : x.toArray[i]? = some c2 := h2
  have : x[i]? = some c2 := by simpa using h2
  rw [e1] at this
  cases this
  exact ⟨.refl, s, .str [c]⟩
def mSeqI (m : ME) : MI := fun sd S => (m sd S).bind fun d S1 => match d with
  | .tup xs => .ok ⟨xs, none⟩ S1
  | .cst xs => .ok ⟨xs, none⟩ S1
  | .loc n => match cellL S1 n with
    | some xs => .ok ⟨xs, some n⟩ S1
    | none => .stk
  | .str x => .ok ⟨x.map fun c => .str [c], none⟩ S1
  | _ => .stk
theorem si_seq {tg e : Expr} {m : ME} (he : SE X W e m) : SI X W tg e (mSeqI m) :=
  (((pi_list he).orF (pi_tup he)).orF (pi_str he)).impF fun σ H Q ⟨μ, S, sd, hs, hl, h⟩ => by
    unfold mSeqI at h
    generalize hr : m sd S = r at h
    cases r with
    | stk => exact h.elim
    | exc x S1 => exact .inl (.inl ⟨μ, S, sd, hs, hl, by rw [hr]; exact h⟩)
    | ok d S1 =>
      cases d with
      | tup xs =>
        refine .inl (.inr ⟨μ, S, sd, hs, hl, ?_⟩)
        rw [hr]
        intro v H' μ' u s r
        cases r with
        | tup ht rl => exact ⟨_, rfl, ⟨_, ht⟩, h _ H' μ' u s (repI_tup ht rl)⟩
      | cst xs =>
        refine .inl (.inl ⟨μ, S, sd, hs, hl, ?_⟩)
        rw [hr]
        intro v H' μ' u s r
        cases r with
        | cst ht rl => exact ⟨_, rfl, ⟨_, ht.sq⟩, h _ H' μ' u s (repI_cst ht rl)⟩
      | loc n =>
        have h : FinA X.mg X.K (RepI X.mg X.K) (fun c d H' => W c d σ H') μ H (match cellL S1 n with
          | some xs => .ok ⟨xs, some n⟩ S1
          | none => .stk) Q := h
        split at h
        · rename_i xs ec
          refine .inl (.inl ⟨μ, S, sd, hs, hl, ?_⟩)
          rw [hr]
          intro v H' μ' u s r
          cases r with
          | loc en =>
            obtain ⟨vs, hq, rl⟩ := s.cellL en ec
            exact ⟨_, rfl, ⟨vs, .inl hq⟩, h _ H' μ' u s (repI_lst en)⟩
        · exact h.elim
      | str x =>
        refine .inr ⟨μ, S, sd, hs, hl, ?_⟩
        rw [hr]
        intro v H' μ' u s r
        cases r with
        | str x => exact ⟨_, rfl, h _ H' μ' u s repI_str⟩
      | _ => exact h.elim
def c62 (i : Int) : Bool := decide (-(2 ^ 62) ≤ i) && decide (i < 2 ^ 62)
theorem c62_ok {i : Int} (h : c62 i = true) : -(2 ^ 62) ≤ i ∧ i < 2 ^ 62 := by
  unfold c62 at h
  simp only [Bool.and_eq_true, decide_eq_true_eq] at h
  exact h
def mRng1 (a : MA) : MI := fun sd S => (a sd S).bind fun ds S1 => match ds with
  | [.int j] => if c62 j then .ok ⟨rngD 0 j.toNat, none⟩ S1 else .stk
  | _ => .stk
def mRng2 (a : MA) : MI := fun sd S => (a sd S).bind fun ds S1 => match ds with
  | [.int i, .int j] => if c62 i && c62 j then .ok ⟨rngD i (j - i).toNat, none⟩ S1 else .stk
  | _ => .stk
theorem si_range1 {tg a : Expr} {ma : MA} {p pos : Pos} (hm : X.mg "range" = none) (ha : SA X W [a] ma) (hg : Gl X "range" := by rfl) (hs : starEach [a] X.env = [(false, eval a X.env)] := by rfl) : SI X W tg (.Call (.Name "range" p) [a] [] pos) (mRng1 ma) :=
  (pi_range1 hg hm ha hs).impF fun σ H Q ⟨μ, S, sd, hs, hl, h⟩ => tA_bind (Rep' := RepI X.mg X.K) hs hl h fun ds S1 μ1 vs H1 hs1 hl1 u1 r1 h1 => by
    split at h1
    · split at h1
      · rename_i j hc
        obtain ⟨v, rfl, r⟩ := r1.one
        exact ⟨j, by rw [r.inv_int], (c62_ok hc).1, (c62_ok hc).2, h1 _ H1 μ1 .refl hs1 repI_rng⟩
      · exact h1.elim
    · exact h1.elim
theorem si_range2 {tg a b : Expr} {ma : MA} {p pos : Pos} (hm : X.mg "range" = none) (ha : SA X W [a, b] ma) (hg : Gl X "range" := by rfl) (hs : starEach [a, b] X.env = [(false, eval a X.env), (false, eval b X.env)] := by rfl) (hs2 : starEach [b] X.env = [(false, eval b X.env)] := by rfl) : SI X W tg (.Call (.Name "range" p) [a, b] [] pos) (mRng2 ma) :=
  (pi_range2 hg hm ha hs hs2).impF fun σ H Q ⟨μ, S, sd, hs, hl, h⟩ => tA_bind (Rep' := RepI X.mg X.K) hs hl h fun ds S1 μ1 vs H1 hs1 hl1 u1 r1 h1 => by
    split at h1
    · split at h1
      · rename_i i j hc
        obtain ⟨v, w, rfl, r, r'⟩ := r1.two
        simp only [Bool.and_eq_true] at hc
        exact ⟨i, j, by rw [r.inv_int, r'.inv_int], ⟨(c62_ok hc.1).1, (c62_ok hc.1).2, (c62_ok hc.2).1, (c62_ok hc.2).2⟩, h1 _ H1 μ1 .refl hs1 repI_rng⟩
      · exact h1.elim
    · exact h1.elim
end

/-! ### for -/
open Classical in
noncomputable def forGo (it : ItD) (g : MG) (b : MS) : List D → Sl → List Cell → ResS
  | [], sd, S => if it.okAt S then .nx sd S else .stk
  | x :: r, sd, S => if it.okAt S then (match g x sd S with
    | .ok sd1 S1 => (match b sd1 S1 with
      | .nx sd2 S2 => forGo it g b r sd2 S2
      | .ct sd2 S2 => forGo it g b r sd2 S2
      | .bk sd2 S2 => .nx sd2 S2
      | .rt d S2 => .rt d S2
      | .exc e sd2 S2 => .exc e sd2 S2
      | .stk => .stk)
    | .exc e S1 => .exc e sd S1
    | .stk => .stk) else .stk
noncomputable def mFor (mi : MI) (g : MG) (b : MS) : MS := fun sd S => (mi sd S).thenS sd fun it S1 => forGo it g b it.xs sd S1
section
variable {X : Cx} {W : WX}
theorem ss_for {tg iter : Expr} {body : List Stmt} {mi : MI} {g : MG} {b : MS} {pos : Pos} (hp : PassesOwn (model X.prog X.w) X.A X.env X.xe) (hc : X.calm = true) (hi : SI X W tg iter mi) (hg : SG X W tg g) (hb : SB X W body b)
    (hs : ∀ x, foldedSetIterable iter X.env x = pure x := by intro _; rfl) : SS X W (.For tg iter body [] pos) (mFor mi g b) := by
  refine (ps_for hp hc hi hg hb hs).impF fun D σ H ⟨μ, S, sd, hs, hl, h⟩ => ?_
  unfold mFor at h
  refine ⟨μ, S, sd, hs, hl, ?_⟩
  generalize hr : mi sd S = r at h
  cases r with
  | stk => exact h
  | exc x S1 => exact fun c dx H' μ' u s e => h c dx σ H' μ' u s (hl.up u) e
  | ok it S1 =>
    intro J H1 μ1 u1 s1 rJ
    have h : FinS X.mg X.K W μ H (forGo it g b it.xs sd S1) D := h
    refine ⟨fun i m σ H => m = it.xs.length - i ∧ i ≤ it.xs.length ∧ ∃ μ S sd, StoRep X.mg X.K μ S H ∧ SlRep X.K μ H sd σ ∧ Up μ1 H1 μ H ∧ FinS X.mg X.K W μ H (forGo it g b (it.xs.drop i) sd S) D,
      ⟨it.xs.length, by simp, Nat.zero_le _, μ1, S1, sd, s1, hl.up u1, .refl, FinS.up u1 h⟩, ?_⟩
    rintro i m σ2 H2 ⟨rfl, hi, μ2, S2, sd2, s2, l2, u2, h2⟩
    by_cases hlt : i < it.xs.length
    · rw [List.drop_eq_getElem_cons hlt] at h2
      unfold forGo at h2
      split at h2
      · rename_i ok
        obtain ⟨go, yl⟩ := (rJ μ2 H2 S2 u2 s2 ok i).1 it.xs[i] (by simp [hlt])
        refine .inr ⟨go, fun σ' H' => ∃ μ S sd, StoRep X.mg X.K μ S H' ∧ SlRep X.K μ H' sd σ' ∧ Up μ1 H1 μ H' ∧ FinS X.mg X.K W μ H' (forGo it g b (it.xs.drop (i + 1)) sd S) D, fun σ' H' q => ⟨_, by omega, rfl, hlt, q⟩, fun x H3 y => ?_⟩
        obtain ⟨u3, s3, r3⟩ := yl x H3 y
        refine ⟨μ2, S2, sd2, it.xs[i], s3, l2.up u3, r3, ?_⟩
        have h3 := FinS.up u3 h2
        generalize hg : g it.xs[i] sd2 S2 = rg at h3
        cases rg with
        | stk => exact h3
        | exc e S3 => exact fun c dx H' μ' u s e => h3 c dx σ2 H' μ' u s ((l2.up u3).up u) e
        | ok sd3 S3 =>
          intro σ4 H4 μ4 u4 s4 l4
          refine ⟨μ4, S3, sd3, s4, l4, ?_⟩
          have h4 := FinS.up u4 h3
          have uu : Up μ1 H1 μ4 H4 := (u2.trans u3).trans u4
          have h4 : FinS X.mg X.K W μ4 H4 (match b sd3 S3 with
            | .nx sd2 S2 => forGo it g b (it.xs.drop (i + 1)) sd2 S2
            | .ct sd2 S2 => forGo it g b (it.xs.drop (i + 1)) sd2 S2
            | .bk sd2 S2 => .nx sd2 S2
            | .rt d S2 => .rt d S2
            | .exc e sd2 S2 => .exc e sd2 S2
            | .stk => .stk) D := h4
          generalize hbr : b sd3 S3 = rb at h4
          cases rb with
          | stk => exact h4
          | exc e sd5 S5 => exact h4
          | rt d S5 => exact h4
          | bk sd5 S5 => exact h4
          | nx sd5 S5 => exact fun σ5 H5 μ5 u5 s5 l5 => ⟨μ5, S5, sd5, s5, l5, uu.trans u5, FinS.up u5 h4⟩
          | ct sd5 S5 => exact fun σ5 H5 μ5 u5 s5 l5 => ⟨μ5, S5, sd5, s5, l5, uu.trans u5, FinS.up u5 h4⟩
      · exact h2.elim
    · have e : i = it.xs.length := by omega
      subst e
      rw [List.drop_length] at h2
      unfold forGo at h2
      split at h2
      · rename_i ok
        exact .inl ⟨(rJ μ2 H2 S2 u2 s2 ok _).2 (Nat.le_refl _), h2 σ2 H2 μ2 .refl s2 l2⟩
      · exact h2.elim

/-! ### while -/
def whGo (t : MT) (b : MS) : Nat → Sl → List Cell → ResS
  | 0, _, _ => .stk
  | n + 1, sd, S => (t sd S).thenS sd fun c S1 => if c = true then (match b sd S1 with
      | .nx sd2 S2 => whGo t b n sd2 S2
      | .ct sd2 S2 => whGo t b n sd2 S2
      | .bk sd2 S2 => .nx sd2 S2
      | .rt d S2 => .rt d S2
      | .exc e sd2 S2 => .exc e sd2 S2
      | .stk => .stk) else .nx sd S1
def mWhile (n : Nat) (t : MT) (b : MS) : MS := whGo t b n
theorem ss_while (n : Nat) {c : Expr} {body : List Stmt} {t : MT} {b : MS} {pos : Pos} (hp : PassesOwn (model X.prog X.w) X.A X.env X.xe) (hc : ST X W c t) (hb : SB X W body b) : SS X W (.While c body [] pos) (mWhile n t b) := by
  refine (ps_while hp hc hb).impF fun D σ H ⟨μ, S, sd, hs, hl, h⟩ => ?_
  refine ⟨fun m σ H => ∃ μ S sd, StoRep X.mg X.K μ S H ∧ SlRep X.K μ H sd σ ∧ FinS X.mg X.K W μ H (whGo t b m sd S) D, ⟨n, μ, S, sd, hs, hl, h⟩, ?_⟩
  rintro m σ1 H1 ⟨μ1, S1, sd1, s1, l1, h1⟩
  cases m with
  | zero => exact h1.elim
  | succ m =>
    refine tT_then s1 l1 h1 fun c S2 μ2 H2 s2 l2 u2 h2 => ?_
    cases c with
    | false => exact h2 σ1 H2 μ2 .refl s2 l2
    | true =>
      refine ⟨fun σ H => ∃ μ S sd, StoRep X.mg X.K μ S H ∧ SlRep X.K μ H sd σ ∧ FinS X.mg X.K W μ H (whGo t b m sd S) D, fun σ' H' q => ⟨m, Nat.lt_succ_self _, q⟩, μ2, S2, sd1, s2, l2, ?_⟩
      have h2 : FinS X.mg X.K W μ2 H2 (match b sd1 S2 with
            | .nx sd2 S2 => whGo t b m sd2 S2
            | .ct sd2 S2 => whGo t b m sd2 S2
            | .bk sd2 S2 => .nx sd2 S2
            | .rt d S2 => .rt d S2
            | .exc e sd2 S2 => .exc e sd2 S2
            | .stk => .stk) D := h2
      generalize hbr : b sd1 S2 = rb at h2
      cases rb with
      | stk => exact h2
      | exc e sd5 S5 => exact h2
      | rt d S5 => exact h2
      | bk sd5 S5 => exact h2
      | nx sd5 S5 => exact fun σ5 H5 μ5 u5 s5 l5 => ⟨μ5, S5, sd5, s5, l5, FinS.up u5 h2⟩
      | ct sd5 S5 => exact fun σ5 H5 μ5 u5 s5 l5 => ⟨μ5, S5, sd5, s5, l5, FinS.up u5 h2⟩
end

/-! ### comprehensions; lists that are no cells (used at once) -/
/-- a target whose stores keep to the slots vs -/
def tGw (X : Cx) (W : WX) (vs : List Nat) (g : MG) : TG := fun v σ H Q => ∃ μ S sd d, StoRep X.mg X.K μ S H ∧ SlRep X.K μ H sd σ ∧ RepV X.K μ H d v ∧ FinA X.mg X.K (fun μ H sd' σ' => SlRep X.K μ H sd' σ' ∧ wipe σ' vs = wipe σ vs) (fun c d H' => W c d σ H') μ H (g d sd S) Q
abbrev SGw (X : Cx) (W : WX) (vs : List Nat) (tg : Expr) (g : MG) : Prop := PG X tg (tGw X W vs g)
theorem wipe_set {σ : St} {i : Nat} {o : Option V} : ∀ {vs : List Nat}, i ∈ vs → wipe (σ.set i o) vs = wipe σ vs
  | [], h => by cases h
  | v :: vs, h => by
    by_cases hv : i ∈ vs
    · show (wipe (σ.set i o) vs).set v none = (wipe σ vs).set v none
      rw [wipe_set hv]
    · have e : i = v := by
        rcases List.mem_cons.mp h with e | e
        · exact e
        · exact absurd e hv
      subst e
      have out : ∀ (us : List Nat) (τ : St), i ∉ us → wipe (τ.set i o) us = (wipe τ us).set i o := by
        intro us
        induction us with
        | nil => intro τ _; rfl
        | cons u us ih =>
          intro τ hu
          rw [List.mem_cons, not_or] at hu
          show (wipe (τ.set i o) us).set u none = ((wipe τ us).set u none).set i o
          rw [ih τ hu.2, List.set_comm _ _ hu.1]
      show (wipe (σ.set i o) vs).set i none = (wipe σ vs).set i none
      rw [out vs σ hv, List.set_set]
section
variable {X : Cx} {W : WX}
theorem sgw_name (i : Nat) {vs : List Nat} {x : Str} {pos : Pos} (hN : X.N.Nodup) (hv : i ∈ vs := by decide) (hi : X.N[i]? = some x := by rfl) (hx : Loc X.env.scope x := by first | exact Or.inl rfl | exact Or.inr rfl) (hf : X.fn x = true ∨ X.env.scope.names.lookup x = some .local := by first | exact .inl rfl | exact .inr rfl) : SGw X W vs (.Name x pos) (gN i) :=
  (pg_name hN hi hx hf).impF fun v σ H Q ⟨μ, S, sd, d, hs, hl, r, h⟩ => h _ H μ .refl hs ⟨hl.set r, wipe_set hv⟩
def tGsw (X : Cx) (W : WX) (ws : List Nat) (g : MGs) : TGs := fun vs σ H Q => ∃ μ S sd ds, StoRep X.mg X.K μ S H ∧ SlRep X.K μ H sd σ ∧ RepL X.K μ H ds vs ∧ FinA X.mg X.K (fun μ H sd' σ' => SlRep X.K μ H sd' σ' ∧ wipe σ' ws = wipe σ ws) (fun c d H' => W c d σ H') μ H (g ds sd S) Q
abbrev SGsw (X : Cx) (W : WX) (ws : List Nat) (tgs : List Expr) (g : MGs) : Prop := PGs X tgs (tGsw X W ws g)
theorem sgsw_nil {ws : List Nat} : SGsw X W ws [] gsNil := pgs_nil.impF fun vs σ H Q ⟨μ, S, sd, ds, hs, hl, r, h⟩ => by
  cases r with
  | nil => exact ⟨rfl, h σ H μ .refl hs ⟨hl, rfl⟩⟩
  | cons _ _ => exact h.elim
theorem sgsw_cons {ws : List Nat} {e : Expr} {es : List Expr} {g : MG} {r : MGs} (h1 : SGw X W ws e g) (h2 : SGsw X W ws es r) (nx : ∀ d sd S x S', g d sd S ≠ .exc x S') (nr : ∀ d sd S x S', r d sd S ≠ .exc x S')
    (hst : (assignEach (e :: es) X.env).map (·.2) = assign e X.env :: (assignEach es X.env).map (·.2) := by rfl) : SGsw X W ws (e :: es) (gsCons g r) :=
  (pgs_cons h1 h2 hst).impF fun vs σ H Q ⟨μ, S, sd, ds, hs, hl, rp, h⟩ => by
    cases rp with
    | nil => exact h.elim
    | @cons d v ds vs rd rr =>
      refine ⟨v, vs, rfl, μ, S, sd, d, hs, hl, rd, ?_⟩
      have h : FinA X.mg X.K (fun μ H sd' σ' => SlRep X.K μ H sd' σ' ∧ wipe σ' ws = wipe σ ws) (fun c d H' => W c d σ H') μ H ((g d sd S).bind fun sd1 S1 => r ds sd1 S1) Q := h
      generalize hr : g d sd S = res at h
      cases res with
      | ok sd1 S1 =>
        rintro σ' H' μ' u s ⟨l, hw⟩
        refine ⟨μ', S1, sd1, ds, s, l, rr.up u, ?_⟩
        have h' : FinA X.mg X.K (fun μ H sd' σ' => SlRep X.K μ H sd' σ' ∧ wipe σ' ws = wipe σ ws) (fun c d H' => W c d σ H') μ' H' (r ds sd1 S1) Q := FinA.up u h
        generalize hr2 : r ds sd1 S1 = res2 at h'
        cases res2 with
        | ok sd2 S2 => exact fun σ3 H3 μ3 u3 s3 ⟨l3, w3⟩ => h' σ3 H3 μ3 u3 s3 ⟨l3, w3.trans hw⟩
        | exc x S2 => exact absurd hr2 (nr _ _ _ _ _)
        | stk => exact h'
      | exc x S1 => exact absurd hr (nx _ _ _ _ _)
      | stk => exact h
theorem sgw_tup {ws : List Nat} {es : List Expr} {k : Nat} {g : MGs} {n : Nat} {pos : Pos} (hc : X.calm = true) (h : SGsw X W ws es g) (hn : (assignEach es X.env).length = n := by rfl) (hst : (assignEach es X.env).findIdx? (·.1) = none := by rfl) : SGw X W ws (.Tuple es k pos) (gTupD n g) :=
  (pg_tup hc h hn hst).impF fun v σ H Q ⟨μ, S, sd, d, hs, hl, r, h⟩ => by
    unfold gTupD at h
    split at h
    · split at h
      · rename_i ds hz
        cases r with
        | tup ht rl => exact ⟨_, _, rfl, ht, by rw [← rl.length]; exact hz, μ, S, sd, ds, hs, hl, rl, h⟩
      · exact h.elim
    · exact h.elim
end
end Fx

namespace Fx
open PySem PySem.Spec PyProof.Rows L2

def wipeD (sd : Sl) : List Nat → Sl
  | [] => sd
  | v :: vs => (wipeD sd vs).set v none
theorem SlRep.wipe {K : PySem.W.Frag} {μ : Mu} {H : Hp} {sd : Sl} {σ : St} (h : SlRep K μ H sd σ) : ∀ ws : List Nat, SlRep K μ H (wipeD sd ws) (wipe σ ws)
  | [] => h
  | v :: vs => (SlRep.wipe h vs).none
theorem wipe_idem (σ : St) : ∀ {ws us : List Nat}, (∀ w ∈ us, w ∈ ws) → wipe (wipe σ us) ws = wipe σ ws
  | ws, [], _ => rfl
  | ws, u :: us, h => by
    show wipe ((wipe σ us).set u none) ws = wipe σ ws
    rw [wipe_set (h u (by simp))]
    exact wipe_idem σ fun w hw => h w (by simp [hw])
abbrev W0 : WX := fun _ _ _ _ => False
/-- a list that is no cell -/
def RepF (K : PySem.W.Frag) (H0 : Hp) (μ : Mu) (H : Hp) (ds : List D) (v : V) : Prop := ∃ p vs, v = .ref p ∧ H p = some (.lst vs) ∧ p ∉ μ ∧ H0 p = none ∧ RepL K μ H ds vs
abbrev ML := Sl → List Cell → Res (List D)
def tL (X : Cx) (W : WX) (m : ML) : TE := fun σ H Q => ∃ μ S sd, StoRep X.mg X.K μ S H ∧ SlRep X.K μ H sd σ ∧ FinA X.mg X.K (RepF X.K H) (fun c d H' => W c d σ H') μ H (m sd S) Q
abbrev SL (X : Cx) (W : WX) (e : Expr) (m : ML) : Prop := PE X e (tL X W m)
abbrev STs (X : Cx) (W : WX) (ifs : List Expr) (m : MT) : Prop := PTs X ifs (tT X W m)
theorem _root_.L2.PTs.impF {X : Cx} {ifs : List Expr} {t t' : TT} (h : PTs X ifs t) (i : ∀ σ H Q, t' σ H Q → t σ H Q) : PTs X ifs t' := ⟨fun pins s σ H Q I q => h.run pins s σ H Q I (i σ H Q q)⟩
def mYes : MT := fun _ S => .ok true S
open Classical in
noncomputable def lcGo (it : ItD) (ws : List Nat) (g : MG) (t : MT) (e : ME) (sd : Sl) : List D → List D → List Cell → Res (List D)
  | [], acc, S => if it.okAt S then .ok acc S else .stk
  | x :: r, acc, S => if it.okAt S then (match g x (wipeD sd ws) S with
    | .ok sd1 S1 => (match t sd1 S1 with
      | .ok b S2 => if b = true then (match e sd1 S2 with
          | .ok y S3 => if acc.length < sizeLine then lcGo it ws g t e sd r (acc ++ [y]) S3 else .stk
          | _ => .stk) else lcGo it ws g t e sd r acc S2
      | _ => .stk)
    | _ => .stk) else .stk
noncomputable def mLc (mi : MI) (ws : List Nat) (g : MG) (t : MT) (e : ME) : ML := fun sd S => (mi sd S).bind fun it S1 => lcGo it ws g t e sd it.xs [] S1
section
variable {X : Cx} {W : WX}
theorem sts_nil : STs X W [] mYes := pts_nil.impF fun σ H Q ⟨μ, S, sd, hs, hl, h⟩ => h true H μ .refl hs rfl
theorem sts_one {c : Expr} {t : MT} (h : ST X W c t) : STs X W [c] t := pts_one h
theorem lcGo_noexc (it : ItD) (ws : List Nat) (g : MG) (t : MT) (e : ME) (sd : Sl) : ∀ (xs acc : List D) (S : List Cell) (x : Ex) (S' : List Cell), lcGo it ws g t e sd xs acc S ≠ .exc x S'
  | [], acc, S, x, S', h => by
    unfold lcGo at h
    split at h <;> cases h
  | y :: r, acc, S, x, S', h => by
    unfold lcGo at h
    split at h
    · split at h
      · split at h
        · split at h
          · split at h
            · split at h
              · exact lcGo_noexc _ _ _ _ _ _ _ _ _ _ _ h
              · cases h
            · cases h
          · exact lcGo_noexc _ _ _ _ _ _ _ _ _ _ _ h
        · cases h
      · cases h
    · cases h
theorem lc_of {mi : MI} {g : MG} {t : MT} {e : ME} (ws : List Nat) (σ : St) (H : Hp) (Q : VK) (h : tL X W (mLc mi ws g t e) σ H Q) : tLc (tI X W mi) (tGw X W0 ws g) (tT X W0 t) (tE X W0 e) ws σ H Q := by
  obtain ⟨μ, S, sd, hs, hl, h⟩ := h
  refine ⟨μ, S, sd, hs, hl, ?_⟩
  unfold mLc at h
  generalize hr : mi sd S = r at h
  cases r with
  | stk => exact h.elim
  | exc x S1 => exact h
  | ok it S1 =>
    intro J H1 μ1 u1 s1 rJ D hD
    have hD1 : D ∉ μ1 := s1.new hD
    have hD0 : H D = none := (u1.back hD).resolve_left fun hm => by
      obtain ⟨n, hn⟩ := List.mem_iff_getElem?.mp hm
      exact hD1 (List.mem_of_getElem? (u1.mu n D hn))
    have h : FinA X.mg X.K (RepF X.K H) (fun c d H' => W c d σ H') μ1 H1 (lcGo it ws g t e sd it.xs [] S1) Q := FinA.up u1 h
    have l1 := hl.up u1
    refine ⟨fun i m H2 => m = it.xs.length - i ∧ i ≤ it.xs.length ∧ ∃ μ2 S2 acc vs, StoRep X.mg X.K μ2 S2 H2 ∧ SlRep X.K μ2 H2 sd σ ∧ Up μ1 H1 μ2 H2 ∧ H2 D = some (.lst vs) ∧ D ∉ μ2 ∧ RepL X.K μ2 H2 acc vs ∧
      FinA X.mg X.K (RepF X.K H) (fun c d H' => W c d σ H') μ1 H1 (lcGo it ws g t e sd (it.xs.drop i) acc S2) Q,
      ⟨it.xs.length, by simp, Nat.zero_le _, μ1, S1, [], [], s1.tmp hD, l1.up (up_tmp hD), up_tmp hD, upd_same, hD1, .nil, h⟩, ?_⟩
    rintro i m H2 ⟨rfl, hi, μ2, S2, acc, vs, s2, l2, u2, eD, nD, rA, h2⟩
    by_cases hlt : i < it.xs.length
    · rw [List.drop_eq_getElem_cons hlt] at h2
      unfold lcGo at h2
      split at h2
      · rename_i okk
        obtain ⟨go, yl⟩ := (rJ μ2 H2 S2 u2 s2 okk i).1 it.xs[i] (by simp [hlt])
        refine .inr ⟨go, fun H2 => ∃ μ2 S2 acc vs, StoRep X.mg X.K μ2 S2 H2 ∧ SlRep X.K μ2 H2 sd σ ∧ Up μ1 H1 μ2 H2 ∧ H2 D = some (.lst vs) ∧ D ∉ μ2 ∧ RepL X.K μ2 H2 acc vs ∧
          FinA X.mg X.K (RepF X.K H) (fun c d H' => W c d σ H') μ1 H1 (lcGo it ws g t e sd (it.xs.drop (i + 1)) acc S2) Q, fun H' q => ⟨_, by omega, rfl, hlt, q⟩, fun x H3 y => ?_⟩
        obtain ⟨u3, s3, r3⟩ := yl x H3 y
        refine ⟨μ2, S2, wipeD sd ws, it.xs[i], s3, (l2.up u3).wipe ws, r3, ?_⟩
        generalize hg : g it.xs[i] (wipeD sd ws) S2 = rg at h2
        cases rg with
        | stk => exact h2.elim
        | exc x S3 => exact h2.elim
        | ok sd3 S3 =>
          rintro σ4 H4 μ4 u4 s4 ⟨l4, w4⟩
          refine ⟨?_, ?_⟩
          · rw [w4, wipe_idem σ fun w hw => hw]
          · refine ⟨μ4, S3, sd3, s4, l4, ?_⟩
            simp only at h2
            generalize ht : t sd3 S3 = rt at h2
            cases rt with
            | stk => exact h2.elim
            | exc x S4 => exact h2.elim
            | ok b S5 =>
              rintro b' H5 μ5 u5 s5 rfl
              have uu : Up μ2 H2 μ5 H5 := (u3.trans u4).trans u5
              have e5 := uu.rest D _ eD nD
              have n5 := uu.off eD nD
              simp only at h2
              cases b with
              | false =>
                rw [if_neg Bool.false_ne_true] at h2 ⊢
                exact ⟨μ5, S5, acc, vs, s5, l2.up uu, u2.trans uu, e5, n5, rA.up uu, h2⟩
              | true =>
                rw [if_pos rfl] at h2 ⊢
                refine ⟨μ5, S5, sd3, s5, l4.up u5, ?_⟩
                generalize he : e sd3 S5 = re at h2
                cases re with
                | stk => exact h2.elim
                | exc x S6 => exact h2.elim
                | ok yd S6 =>
                  intro yv H6 μ6 u6 s6 r6
                  simp only at h2
                  split at h2
                  · rename_i hz
                    have uu6 := uu.trans u6
                    have e6 := uu6.rest D _ eD nD
                    have n6 := uu6.off eD nD
                    have uO : UpR μ6 H6 μ6 (upd H6 D (.lst (vs ++ [yv]))) := upR_other e6
                    refine ⟨vs, e6, by rw [← rA.length]; exact hz, μ6, S6, acc ++ [yd], vs ++ [yv], s6.other n6 e6, (l2.up uu6).upR uO, (u2.trans uu6).other hD e6, upd_same, n6, ((rA.up uu6).snoc r6).upR uO, h2⟩
                  · exact h2.elim
      · exact h2.elim
    · have e : i = it.xs.length := by omega
      subst e
      rw [List.drop_length] at h2
      unfold lcGo at h2
      split at h2
      · rename_i okk
        refine .inl ⟨(rJ μ2 H2 S2 u2 s2 okk _).2 (Nat.le_refl _), ?_⟩
        exact h2 (.ref D) H2 μ2 u2 s2 ⟨D, vs, rfl, eD, nD, hD0, rA⟩
      · exact h2.elim
theorem sl_lc {elt tg iter : Expr} {ifs : List Expr} {scope : Scope} {pos : Pos} {mi : MI} {g : MG} {t : MT} {e : ME} (own : List (Str × Nat)) (hc : X.calm = true) (hN : X.N.Nodup) (hi : SI X W tg iter mi) (ok : BlkOk X.N X.env.scope scope own)
    (hg : ∀ (s : Shared) (H : Hp) (C : Addr) (cl : List (Str × Addr)) (fp : List Addr), SGw (X.blk s H scope (compEnvC scope cl C X.env) fp) W0 (own.map (·.2)) tg g) (ht : ∀ (s : Shared) (H : Hp) (C : Addr) (cl : List (Str × Addr)) (fp : List Addr), STs (X.blk s H scope (compEnvC scope cl C X.env) fp) W0 ifs t)
    (he : ∀ (s : Shared) (H : Hp) (C : Addr) (cl : List (Str × Addr)) (fp : List Addr), SE (X.blk s H scope (compEnvC scope cl C X.env) fp) W0 elt e) (hs : ∀ x, foldedSetIterable iter X.env x = pure x := by intro _; rfl) :
    SL X W (.ListComp elt [⟨tg, iter, ifs, 0⟩] scope pos) (mLc mi (own.map (·.2)) g t e) :=
  (pe_lc (g := tGw X W0 (own.map fun x : Str × Nat => x.2) g) (tt := tT X W0 t) (te := tE X W0 e) hc hN hi ok (fun s H C cl fp => hg s H C cl fp) (fun s H C cl fp => ht s H C cl fp) (fun s H C cl fp => he s H C cl fp) hs).impF fun σ H Q h => lc_of _ σ H Q h
/-- [a, b, ..] used at once -/
theorem sl_lst {es : List Expr} {m : MA} {pos} (h : SA X W es m) : SL X W (.List es pos) (fun sd S => (m sd S).bind fun ds S1 => if ds.length ≤ sizeLine then .ok ds S1 else .stk) :=
  (pe_lst h).impF fun σ H Q ⟨μ, S, sd, hs, hl, h⟩ => tA_bind (Rep' := RepF X.K H) hs hl h fun ds S1 μ1 vs H1 hs1 hl1 u1 r1 h1 => by
    split at h1
    · rename_i hz
      refine ⟨by rw [← r1.length]; exact hz, fun p hp => ?_⟩
      have n1 := hs1.new hp
      have h0 : H p = none := (u1.back hp).resolve_left fun hm => by
        obtain ⟨n, hn⟩ := List.mem_iff_getElem?.mp hm
        exact n1 (List.mem_of_getElem? (u1.mu n p hn))
      exact h1 (.ref p) _ μ1 (up_tmp hp) (hs1.tmp hp) ⟨p, vs, rfl, upd_same, n1, h0, r1.up (up_tmp hp)⟩
    · exact h1.elim
/-- .. becomes a cell -/
def mFresh (m : ML) : ME := fun sd S => (m sd S).bind fun ds S1 => .ok (.loc S1.length) (S1 ++ [.lst ds])
theorem StoRep.adopt {mg : Str → Option Value} {K : PySem.W.Frag} {μ : Mu} {S : List Cell} {H : Hp} {p : Addr} {c : Cell} (h : StoRep mg K μ S H) (hp : p ∉ μ) (hc : CellOk mg K (μ ++ [p]) H p c) : StoRep mg K (μ ++ [p]) (S ++ [c]) H where
  nd := by
    rw [List.nodup_append]
    refine ⟨h.nd, by simp, fun x hx y hy e => ?_⟩
    rw [List.mem_singleton] at hy
    subst hy; subst e
    exact hp hx
  len := by simp [h.len]
  at_ := fun n c' a e1 e2 => by
    by_cases hn : n < S.length
    · have e1' : S[n]? = some c' := by rw [← e1, List.getElem?_append_left hn]
      have e2' : μ[n]? = some a := by rw [← e2, List.getElem?_append_left (by rw [h.len]; exact hn)]
      exact (h.at_ n c' a e1' e2').keep ⟨fun m b e => by rw [List.getElem?_append_left (List.getElem?_eq_some_iff.mp e).1]; exact e, fun _ _ e => e, fun _ _ _ e => e⟩ rfl
    · have hn' : n = S.length := by
        have := (List.getElem?_eq_some_iff.mp e1).1
        simp at this; omega
      subst hn'
      have z1 : c = c' := by simpa using e1
      have z2 : p = a := by
        have := h.len
        rw [← this] at e2; simpa using e2
      subst z1; subst z2
      exact hc
theorem se_fresh {e : Expr} {m : ML} (h : SL X W e m) : SE X W e (mFresh m) := by
  refine h.impF fun σ H Q ⟨μ, S, sd, hs, hl, h⟩ => ⟨μ, S, sd, hs, hl, ?_⟩
  unfold mFresh at h
  generalize hr : m sd S = r at h
  cases r with
  | stk => exact h.elim
  | exc x S1 => exact h
  | ok ds S1 =>
    rintro v H1 μ1 u1 s1 ⟨p, vs, rfl, e1, n1, h0, rl⟩
    have up : UpR μ1 H1 (μ1 ++ [p]) H1 := ⟨fun m b e => by rw [List.getElem?_append_left (List.getElem?_eq_some_iff.mp e).1]; exact e, fun _ _ e => e, fun _ _ _ e => e⟩
    exact h (.ref p) H1 (μ1 ++ [p]) (u1.adopt h0) (s1.adopt n1 ⟨vs, e1, rl.upR up⟩) (.loc (by rw [← s1.len]; simp))
theorem ss_setLc (i : Nat) {y : Str} {py : Pos} {elt tg iter : Expr} {ifs : List Expr} {scope : Scope} {pos spos : Pos} {mi : MI} {g : MG} {t : MT} {e : ME} (own : List (Str × Nat)) (hc : X.calm = true) (hN : X.N.Nodup) (hi : SI X W tg iter mi) (ok : BlkOk X.N X.env.scope scope own)
    (hg : ∀ (s : Shared) (H : Hp) (C : Addr) (cl : List (Str × Addr)) (fp : List Addr), SGw (X.blk s H scope (compEnvC scope cl C X.env) fp) W0 (own.map (·.2)) tg g) (ht : ∀ (s : Shared) (H : Hp) (C : Addr) (cl : List (Str × Addr)) (fp : List Addr), STs (X.blk s H scope (compEnvC scope cl C X.env) fp) W0 ifs t)
    (he : ∀ (s : Shared) (H : Hp) (C : Addr) (cl : List (Str × Addr)) (fp : List Addr), SE (X.blk s H scope (compEnvC scope cl C X.env) fp) W0 elt e) (hs : ∀ x, foldedSetIterable iter X.env x = pure x := by intro _; rfl)
    (hy : X.N[i]? = some y := by rfl) (hyl : X.env.scope.names.lookup y = some .local := by rfl) (hsw : swapsWith (.ListComp elt [⟨tg, iter, ifs, 0⟩] scope pos) (some (.Name y py)) spos.line X.env = pure true := by exact sw_true rfl rfl rfl (by decide +kernel)) :
    SS X W (.Assign [.Name y py] (.ListComp elt [⟨tg, iter, ifs, 0⟩] scope pos) spos) (mSet i (mFresh (mLc mi (own.map (·.2)) g t e))) :=
  (ps_setLc (g := tGw X W0 (own.map fun x : Str × Nat => x.2) g) (tt := tT X W0 t) (te := tE X W0 e) hc hN hy hyl hsw hi ok (fun s H C cl fp => hg s H C cl fp) (fun s H C cl fp => ht s H C cl fp) (fun s H C cl fp => he s H C cl fp) hs).impF fun D σ H ⟨μ, S, sd, hs, hl, h⟩ => by
    refine lc_of _ σ H _ ⟨μ, S, sd, hs, hl, ?_⟩
    unfold mSet mFresh at h
    generalize hr : mLc mi (own.map (·.2)) g t e sd S = r at h
    cases r with
    | stk => exact h.elim
    | exc x S1 => exact fun c dx H' μ' u s e => h c dx σ H' μ' u s (hl.up u) e
    | ok ds S1 =>
      rintro v H1 μ1 u1 s1 ⟨p, vs, rfl, e1, n1, h0, rl⟩
      have up : UpR μ1 H1 (μ1 ++ [p]) H1 := ⟨fun m b e => by rw [List.getElem?_append_left (List.getElem?_eq_some_iff.mp e).1]; exact e, fun _ _ e => e, fun _ _ _ e => e⟩
      have ua := u1.adopt h0
      exact h _ H1 (μ1 ++ [p]) ua (s1.adopt n1 ⟨vs, e1, rl.upR up⟩) ((hl.up ua).set (.loc (by rw [← s1.len]; simp)))
/-- a built-in called upon such a list -/
abbrev OF := List D → List Cell → Res D
def CallF (X : Cx) (W : WX) (f : Value) (o : OF) : Prop :=
  ∃ r : List V → Hp → VK → Prop, CallR X f r ∧ ∀ σ H μ S ds p vs Q, StoRep X.mg X.K μ S H → H p = some (.lst vs) → RepL X.K μ H ds vs → FinA X.mg X.K (RepV X.K) (fun c d H' => W c d σ H') μ H (o ds S) Q → r [.ref p] H Q
def mF (o : OF) (a : ML) : ME := fun sd S => (a sd S).bind fun ds S1 => o ds S1
theorem mF_of {o : OF} {e : Expr} {ma : ML} {r : List V → Hp → VK → Prop} (h2 : ∀ σ H μ S ds p vs Q, StoRep X.mg X.K μ S H → H p = some (.lst vs) → RepL X.K μ H ds vs → FinA X.mg X.K (RepV X.K) (fun c d H' => W c d σ H') μ H (o ds S) Q → r [.ref p] H Q)
    (σ : St) (H : Hp) (Q : VK) (h : tE X W (mF o ma) σ H Q) : tCB r (tCons (tL X W ma) tNil) σ H Q := by
  obtain ⟨μ, S, sd, hs, hl, h⟩ := h
  refine ⟨μ, S, sd, hs, hl, ?_⟩
  unfold mF at h
  generalize hr : ma sd S = ra at h
  cases ra with
  | stk => exact h.elim
  | exc x S1 => exact h
  | ok ds S1 =>
    rintro v H1 μ1 u1 s1 ⟨p, vs, rfl, e1, n1, h0, rl⟩
    exact h2 σ H1 μ1 S1 ds p vs Q s1 e1 rl (FinA.up u1 h)
theorem se_callFB {id : String} {x : Str} {o : OF} {e : Expr} {ma : ML} {p pos : Pos} (hc : CallF X W (.builtin id) o) (hm : X.mg x = none) (ha : SL X W e ma) (hv : bootBuiltins x = some (.builtin id) := by decide +kernel) (hg : Gl X x := by rfl) (hn : x ≠ "__name__" := by decide) (hdb : (x == ("__debug__" : Str)) = false := by decide)
    (hst : starEach [e] X.env = (false, eval e X.env) :: starEach [] X.env := by rfl) (hpl : (backTo pos (starEach [] X.env)).any (·.1) = false := by rfl) : SE X W (.Call (.Name x p) [e] [] pos) (mF o ma) := by
  obtain ⟨r, h1, h2⟩ := hc
  exact (pe_callB h1 hg hm hv (pa_cons ha pa_nil hst) hn hdb hst hpl).impF (mF_of (e := e) h2)
theorem se_callFT {T : String} {x : Str} {o : OF} {e : Expr} {ma : ML} {p pos : Pos} (hc : CallF X W (.type T) o) (hm : X.mg x = none) (ha : SL X W e ma) (hv : bootBuiltins x = some (.type T) := by decide +kernel) (hg : Gl X x := by rfl) (hn : x ≠ "__name__" := by decide) (hdb : (x == ("__debug__" : Str)) = false := by decide)
    (hst : starEach [e] X.env = (false, eval e X.env) :: starEach [] X.env := by rfl) (hpl : (backTo pos (starEach [] X.env)).any (·.1) = false := by rfl) : SE X W (.Call (.Name x p) [e] [] pos) (mF o ma) := by
  obtain ⟨r, h1, h2⟩ := hc
  exact (pe_callTy h1 hg hm hv (pa_cons ha pa_nil hst) hn hdb hst hpl).impF (mF_of (e := e) h2)
def oTupF : OF := fun ds S => .ok (.tup ds) S
theorem cf_tuple : CallF X W (.type "tuple") oTupF := ⟨_, call_tuple_of, fun σ H μ S ds p vs Q hs e r h => ⟨p, vs, rfl, .inl ⟨SqL.of e, fun l hn => h (.ref l) _ μ (up_tmp hn) (hs.tmp hn) (.tup (SqT.of upd_same) (r.up (up_tmp hn)))⟩⟩⟩
def oAllF : OF := fun ds S => match blsD ds with | some bs => .ok (.bl (bs.all id)) S | none => .stk
def oAnyF : OF := fun ds S => match blsD ds with | some bs => .ok (.bl (bs.any id)) S | none => .stk
def oSumF : OF := fun ds S => match intsD ds with | some ns => .ok (.int ns.sum) S | none => .stk
def oLenF : OF := fun ds S => .ok (.int ds.length) S
theorem cf_all (hc : X.calm = true) : CallF X W (.builtin "all") oAllF := ⟨_, cr_all hc, fun σ H μ S ds p vs Q hs e r h => by
  unfold oAllF at h
  split at h
  · rename_i bs eb
    exact ⟨p, bs, rfl, by rw [← blsD_ok r eb]; exact SqL.of e, h _ H μ .refl hs (.bl _)⟩
  · exact h.elim⟩
theorem cf_any (hc : X.calm = true) : CallF X W (.builtin "any") oAnyF := ⟨_, cr_any hc, fun σ H μ S ds p vs Q hs e r h => by
  unfold oAnyF at h
  split at h
  · rename_i bs eb
    exact ⟨p, bs, rfl, by rw [← blsD_ok r eb]; exact SqL.of e, h _ H μ .refl hs (.bl _)⟩
  · exact h.elim⟩
theorem cf_sum (hc : X.calm = true) : CallF X W (.builtin "sum") oSumF := ⟨_, cr_sum hc, fun σ H μ S ds p vs Q hs e r h => by
  unfold oSumF at h
  split at h
  · rename_i bs eb
    exact ⟨p, bs, rfl, by rw [← intsD_ok r eb]; exact SqL.of e, h _ H μ .refl hs (.int _)⟩
  · exact h.elim⟩
theorem cf_len : CallF X W (.builtin "len") oLenF := ⟨_, call_len_seq, fun σ H μ S ds p vs Q hs e r h => ⟨p, vs, rfl, .inl (SqL.of e), by rw [← r.length]; exact h _ H μ .refl hs (.int _)⟩⟩
end
end Fx

namespace Fx
open PySem PySem.Spec PyProof.Rows L2

/-! ### cells that nobody names any more are left out -/
mutual
def D.bel (n : Nat) : D → Prop
  | .loc k => k < n
  | .tup l => D.belL n l
  | .cst l => D.belL n l
  | _ => True
def D.belL (n : Nat) : List D → Prop
  | [] => True
  | d :: r => D.bel n d ∧ D.belL n r
end
def Cell.bel (n : Nat) : Cell → Prop
  | .lst xs => D.belL n xs
  | .dic kvs => D.belL n (kvs.map (·.2))
  | .ins _ fs => D.belL n (fs.map (·.2))
section
variable {K : PySem.W.Frag} {mg : Str → Option Value} {μ : Mu} {H : Hp}
mutual
theorem RepV.cut {n : Nat} : ∀ {d : D} {v : V}, RepV K μ H d v → D.bel n d → RepV K (μ.take n) H d v
  | _, _, .non, _ => .non
  | _, _, .bl b, _ => .bl b
  | _, _, .int i, _ => .int i
  | _, _, .str x, _ => .str x
  | _, _, .tup h r, b => .tup h (RepL.cut r (by unfold D.bel at b; exact b))
  | _, _, .cst h r, b => .cst h (RepL.cut r (by unfold D.bel at b; exact b))
  | _, _, .loc h, b => .loc (by unfold D.bel at b; rw [List.getElem?_take_of_lt b]; exact h)
  | _, _, .adr a, _ => .adr a
theorem RepL.cut {n : Nat} : ∀ {ds : List D} {vs : List V}, RepL K μ H ds vs → D.belL n ds → RepL K (μ.take n) H ds vs
  | _, _, .nil, _ => .nil
  | _, _, .cons h r, b => by
    unfold D.belL at b
    exact .cons (RepV.cut h b.1) (RepL.cut r b.2)
end
mutual
theorem RepV.bel {n : Nat} (hn : μ.length ≤ n) : ∀ {d : D} {v : V}, RepV K μ H d v → D.bel n d
  | _, _, .non => by unfold D.bel; trivial
  | _, _, .bl b => by unfold D.bel; trivial
  | _, _, .int i => by unfold D.bel; trivial
  | _, _, .str x => by unfold D.bel; trivial
  | _, _, .tup h r => by unfold D.bel; exact RepL.bel hn r
  | _, _, .cst h r => by unfold D.bel; exact RepL.bel hn r
  | _, _, .loc h => by unfold D.bel; exact Nat.lt_of_lt_of_le (List.getElem?_eq_some_iff.mp h).1 hn
  | _, _, .adr a => by unfold D.bel; trivial
theorem RepL.bel {n : Nat} (hn : μ.length ≤ n) : ∀ {ds : List D} {vs : List V}, RepL K μ H ds vs → D.belL n ds
  | _, _, .nil => by unfold D.belL; trivial
  | _, _, .cons h r => by unfold D.belL; exact ⟨RepV.bel hn h, RepL.bel hn r⟩
end
theorem CellOk.cut {n : Nat} {a : Addr} {c : Cell} (h : CellOk mg K μ H a c) (b : c.bel n) : CellOk mg K (μ.take n) H a c := by
  cases c with
  | lst xs => obtain ⟨vs, h, r⟩ := h; exact ⟨vs, h, r.cut b⟩
  | dic kvs => obtain ⟨ws, h, k, r⟩ := h; exact ⟨ws, h, k, r.cut b⟩
  | ins c fs => obtain ⟨C, dx, ws, m, h, k, r⟩ := h; exact ⟨C, dx, ws, m, h, k, r.cut b⟩
theorem CellOk.bel {n : Nat} {a : Addr} {c : Cell} (h : CellOk mg K μ H a c) (hn : μ.length ≤ n) : c.bel n := by
  cases c with
  | lst xs => obtain ⟨vs, h, r⟩ := h; exact r.bel hn
  | dic kvs => obtain ⟨ws, h, k, r⟩ := h; exact r.bel hn
  | ins c fs => obtain ⟨C, dx, ws, m, h, k, r⟩ := h; exact r.bel hn
theorem StoRep.cells {S : List Cell} (h : StoRep mg K μ S H) {n : Nat} (hn : S.length ≤ n) : ∀ c ∈ S, c.bel n := fun c hc => by
  obtain ⟨i, hi⟩ := List.mem_iff_getElem?.mp hc
  have hl := (List.getElem?_eq_some_iff.mp hi).1
  have hm : i < μ.length := by rw [h.len]; exact hl
  exact (h.at_ i c μ[i] hi (by simp [hm])).bel (by rw [h.len]; exact hn)
theorem StoRep.cut {S junk : List Cell} (h : StoRep mg K μ (S ++ junk) H) (b : ∀ c ∈ S, c.bel S.length) : StoRep mg K (μ.take S.length) S H where
  nd := h.nd.sublist (List.take_sublist _ _)
  len := by
    have := h.len
    rw [List.length_take, this, List.length_append]
    omega
  at_ := fun n c a e1 e2 => by
    have hl := (List.getElem?_eq_some_iff.mp e1).1
    rw [List.getElem?_take_of_lt hl] at e2
    exact (h.at_ n c a (by rw [List.getElem?_append_left hl]; exact e1) e2).cut (b c (List.mem_of_getElem? e1))
theorem Up.cut {μ' : Mu} {H' : Hp} {n : Nat} (u : Up μ H μ' H') (hn : μ.length ≤ n) : Up μ H (μ'.take n) H' where
  mu := fun i a e => by rw [List.getElem?_take_of_lt (Nat.lt_of_lt_of_le (List.getElem?_eq_some_iff.mp e).1 hn)]; exact u.mu i a e
  tup := u.tup
  frz := u.frz
  rest := u.rest
  fresh := fun b h => u.fresh b (List.mem_of_mem_take h)
theorem RepL.map {ds : List D} {vs : List V} (r : RepL K μ H ds vs) : ∀ (i : Nat) (d : D), (ds.map some)[i]? = some (some d) → ∃ v, (vs.map some)[i]? = some (some v) ∧ RepV K μ H d v := fun i d e => by
  rw [List.getElem?_map] at e
  obtain ⟨d', e1, e2⟩ := Option.map_eq_some_iff.mp e
  cases e2
  obtain ⟨v, e3, r3⟩ := r.getD e1
  exact ⟨v, by rw [List.getElem?_map, e3]; rfl, r3⟩
end
def startD (n : Nat) (ds : List D) : Sl := ds.map some ++ List.replicate (n - ds.length) none
theorem slRep_start {K : PySem.W.Frag} {μ : Mu} {H : Hp} {ds : List D} {vs : List V} (N : List Str) (r : RepL K μ H ds vs) : SlRep K μ H (startD N.length ds) (L2.start N vs) where
  len := by simp [startD, L2.start, r.length]
  at_ := fun i d e => by
    have hl := r.length
    by_cases hi : i < ds.length
    · have e' : (ds.map some)[i]? = some (some d) := by
        unfold startD at e
        rwa [List.getElem?_append_left (by simpa using hi)] at e
      obtain ⟨v, e1, r1⟩ := r.map i d e'
      refine ⟨v, ?_, r1⟩
      unfold L2.start
      rw [List.getElem?_append_left (by simp; omega)]
      exact e1
    · unfold startD at e
      rw [List.getElem?_append_right (by simp; omega)] at e
      have := List.mem_of_getElem? e
      rw [List.mem_replicate] at this
      cases this.2
/-- what a def's body came to, as its summary tells it -/
def RefR (S : List Cell) (r : Res D) (b : ResS) : Prop := match r with
  | .stk => True
  | .ok d S1 => S.length ≤ S1.length ∧ d.bel S1.length ∧ (∀ c ∈ S1, c ∈ S ∨ c.bel S1.length) ∧ ∃ junk, b = .rt d (S1 ++ junk) ∨ (d = .non ∧ ∃ sd', b = .nx sd' (S1 ++ junk))
  | .exc x S1 => S.length ≤ S1.length ∧ D.belL S1.length (x.fs.map (·.2)) ∧ (∀ c ∈ S1, c ∈ S ∨ c.bel S1.length) ∧ ∃ junk sd', b = .exc x sd' (S1 ++ junk)
section
variable {P : Program} {w : World} {K : PySem.W.Frag} {mg : Str → Option Value} {base : Heap}
/-- a global def as it stands behind the top -/
def IsFn (K : PySem.W.Frag) (mg : Str → Option Value) (x : Str) (st : Stmt) (ps : List Str) : Prop := ∃ f fd, mg x = some (.ref f) ∧ Fun K x x st f fd ∧ Binds K fd ps []
abbrev bodyX (P : Program) (w : World) (K : PySem.W.Frag) (mg : Str → Option Value) (base : Heap) (N : List Str) (x : Str) (st : Stmt) (f : Addr) (cdv : Value) (A : Around) (outer : List Env) (s : Shared) (H : Hp) (E : XK) : Cx := cxOf (L2.CX P w) P w K mg base N x (defScope st) f cdv A outer s H E
theorem fnOk_def {x : Str} {st : Stmt} {N ps : List Str} {k : Nat} {m : List D → List Cell → Res D} {mb : MS} {f : Addr} {fd : FuncData} (F : Fun K x x st f fd) (S : FnScope N ps (defScope st))
    (hb : ∀ (f : Addr) (cdv : Value) (A : Around) (outer : List Env) (s : Shared) (H : Hp) (E : XK), Takes (bodyX P w K mg base N x st f cdv A outer s H E) (fun cls d _ H' => E cls d H') →
      PassesOwn (model P w) (bodyX P w K mg base N x st f cdv A outer s H E).A (bodyX P w K mg base N x st f cdv A outer s H E).env (bodyX P w K mg base N x st f cdv A outer s H E).xe → Room k (bodyX P w K mg base N x st f cdv A outer s H E).A →
      SB (bodyX P w K mg base N x st f cdv A outer s H E) (fun cls d _ H' => E cls d H') (defBody st) mb)
    (hm : ∀ ds S, ds.length = ps.length → RefR S (m ds S) (mb (startD N.length ds) S)) : FnOk P w K mg base (L2.CX P w) (k + 1) f fd ps (spM mg K ps.length m) := by
  refine F.okX S (fun vs H Q E h => h.1) (fun cdv A outer s H vs Q E hr h => ?_)
  obtain ⟨hlen, μ, S0, ds, hs, rl, hF⟩ := h
  refine ⟨_, hb f cdv A outer s H E (takes_of rfl rfl rfl rfl) (passes_of rfl) hr, μ, S0, startD N.length ds, hs, slRep_start N rl, ?_⟩
  have hR := hm ds S0 (by rw [rl.length]; exact hlen)
  generalize m ds S0 = r at hF hR
  generalize mb (startD N.length ds) S0 = b at hR
  have hlen := hs.len
  cases r with
  | stk => exact hF.elim
  | ok d S1 =>
    obtain ⟨c1, c2, c3, junk, hb⟩ := hR
    have hc : ∀ c ∈ S1, c.bel S1.length := fun c hm => (c3 c hm).elim (hs.cells c1 c) id
    rcases hb with rfl | ⟨rfl, sd', rfl⟩
    · exact fun v H' μ' u s r => hF v H' (μ'.take S1.length) (u.cut (by omega)) (s.cut hc) (r.cut c2)
    · exact fun σ' H' μ' u s l => hF .non H' (μ'.take S1.length) (u.cut (by omega)) (s.cut hc) .non
  | exc x S1 =>
    obtain ⟨c1, c2, c3, junk, sd', rfl⟩ := hR
    have hc : ∀ c ∈ S1, c.bel S1.length := fun c hm => (c3 c hm).elim (hs.cells c1 c) id
    exact fun cls dx σ' H' μ' u s l ⟨C, dd, fs, e1, e2, e3, e4, e5, e6⟩ => hF cls dx H' (μ'.take S1.length) (u.cut (by omega)) (s.cut hc) ⟨C, dd, fs, e1, e2, e3, e4, e5, e6.cut c2⟩
theorem FnM.def {x : Str} {st : Stmt} {N ps : List Str} {k : Nat} {m : List D → List Cell → Res D} {mb : MS} (F : IsFn K mg x st ps) (S : FnScope N ps (defScope st))
    (hb : ∀ (f : Addr) (cdv : Value) (A : Around) (outer : List Env) (s : Shared) (H : Hp) (E : XK), Takes (bodyX P w K mg base N x st f cdv A outer s H E) (fun cls d _ H' => E cls d H') →
      PassesOwn (model P w) (bodyX P w K mg base N x st f cdv A outer s H E).A (bodyX P w K mg base N x st f cdv A outer s H E).env (bodyX P w K mg base N x st f cdv A outer s H E).xe → Room k (bodyX P w K mg base N x st f cdv A outer s H E).A →
      SB (bodyX P w K mg base N x st f cdv A outer s H E) (fun cls d _ H' => E cls d H') (defBody st) mb)
    (hm : ∀ ds S, ds.length = ps.length → RefR S (m ds S) (mb (startD N.length ds) S)) : FnM P w K mg base (k + 1) x ps.length m := by
  obtain ⟨f, fd, h1, F, hbd⟩ := F
  exact ⟨f, fd, ps, h1, F.kp, hbd, fnOk_def F S hb hm⟩
/-- nothing is promised -/
theorem FnM.none {x : Str} {st : Stmt} {N ps : List Str} {k : Nat} (F : IsFn K mg x st ps) (S : FnScope N ps (defScope st)) : FnM P w K mg base k x ps.length (fun _ _ => .stk) := by
  obtain ⟨f, fd, h1, F, hbd⟩ := F
  refine ⟨f, fd, ps, h1, F.kp, hbd, ⟨fun vs H Q E h => h.1, fun A outer s H args us vs Q E hr he hbi hv hsp => ?_⟩⟩
  obtain ⟨_, _, _, _, _, _, h⟩ := hsp
  exact h.elim
end
/-- a def's summary with less told -/
theorem FnM.imp {P : Program} {w : World} {K : PySem.W.Frag} {mg : Str → Option Value} {base : Heap} {k n : Nat} {x : Str} {m m' : List D → List Cell → Res D} (F : FnM P w K mg base k x n m) (h : ∀ ds S, m' ds S = .stk ∨ m' ds S = m ds S) : FnM P w K mg base k x n m' := by
  obtain ⟨f, fd, ps, h1, h2, h3, h4⟩ := F
  refine ⟨f, fd, ps, h1, h2, h3, h4.imp fun vs H Q E ⟨l, μ, S, ds, hs, rl, q⟩ => ⟨l, μ, S, ds, hs, rl, ?_⟩⟩
  rcases h ds S with e | e
  · rw [e] at q; exact q.elim
  · rwa [e] at q
/-! ### the law -/
theorem only_sq {K : PySem.W.Frag} {H : Hp} {a : Addr} {xs : List V} (h : Only H) (q : SqL K H a xs) : SqF K H a xs := by
  rcases q with (q | ⟨o, q⟩) | q
  · rcases h a with z | ⟨o, ys, z⟩
    · rw [z] at q; cases q
    · rw [z] at q; cases q
  · exact .inl ⟨o, q⟩
  · exact .inr q
theorem repL_ints {K : PySem.W.Frag} {μ : Mu} {H : Hp} : ∀ ns : List Int, RepL K μ H (ns.map D.int) (ns.map V.int)
  | [] => .nil
  | n :: ns => .cons (.int n) (repL_ints ns)
/-- what the law's def is to keep -/
def spLaw (K : PySem.W.Frag) : Sp := fun vs H Q _ => ∃ (a : Addr) (ns : List Int), vs = [.ref a] ∧ Only H ∧ SqL K H a (ns.map V.int) ∧ ns.length ≤ 63 ∧ ∀ H', Q (.bl true) H'
theorem law_imp {mg : Str → Option Value} {K : PySem.W.Frag} {m : List D → List Cell → Res D} (h : ∀ ns : List Int, ns.length ≤ 63 → ∃ S, m [.cst (ns.map D.int)] [] = .ok (.bl true) S) : ∀ vs H Q E, spLaw K vs H Q E → spM mg K 1 m vs H Q E := fun vs H Q E ⟨a, ns, e, hO, hq, hl, q⟩ => by
  subst e
  obtain ⟨S, e⟩ := h ns hl
  refine ⟨rfl, [], [], [.cst (ns.map D.int)], ⟨.nil, rfl, fun n c a e _ => by simp at e⟩, .cons (.cst (only_sq hO hq) (repL_ints ns)) .nil, ?_⟩
  rw [e]
  intro v H' μ' u s r
  rw [r.inv_bl]
  exact q H'
theorem hCX {P : Program} {w : World} (H : Hp) (s : Shared) (e : Value) (s' : Shared) (h : L2.CX P w [] H s (fun _ _ _ => False) e s') : False := by
  obtain ⟨_, _, _, _, _, _, _, _, _, _, _, _, z⟩ := h
  exact z.elim
end Fx
namespace Fx
open PySem PySem.Spec PyProof.Rows L2
def cs (s : String) : List Nat := (Str.ofString s).cps.toList
theorem len_nil : ∀ sd S ds S', mNil sd S = .ok ds S' → ds.length = 0 := fun sd S ds S' h => by cases h; rfl
theorem len_cons {m : ME} {r : MA} {n : Nat} (h : ∀ sd S ds S', r sd S = .ok ds S' → ds.length = n) : ∀ sd S ds S', mCons m r sd S = .ok ds S' → ds.length = n + 1 := fun sd S ds S' e => by
  unfold mCons at e
  generalize m sd S = x at e
  cases x with
  | ok d S1 =>
    have e : (r sd S1).bind (fun ds S2 => .ok (d :: ds) S2) = .ok ds S' := e
    generalize hr : r sd S1 = y at e
    cases y with
    | ok es S2 => cases e; rw [List.length_cons, h _ _ _ _ hr]
    | exc _ _ => cases e
    | stk => cases e
  | exc _ _ => cases e
  | stk => cases e
/-- how often a while turns at most -/
def whN : Nat := 2 ^ 64
theorem se_globI {X : Cx} {W : WX} {x : Str} {i : Int} {pos : Pos} (h : ∃ t, X.mg x = some (.int i t)) (hg : Gl X x := by rfl) (hd : (x == ("__debug__" : Str)) = false := by decide) : SE X W (.Name x pos) (mC (.int i)) := by
  obtain ⟨t, h⟩ := h
  exact se_glob hg h (v := .int i) ⟨t, rfl⟩ (fun _ _ => .int i) hd
def mLst' (m : MA) : ML := fun sd S => (m sd S).bind fun ds S1 => if ds.length ≤ sizeLine then .ok ds S1 else .stk
theorem isFn_mk {K : PySem.W.Frag} {h : Heap} {mg : Str → Option Value} {x : Str} {st : Stmt} {ps : List Str} {f : Addr} {oc : Value} {od an : Option Addr} {osl : Array (Option Value)} {kV doc pm cdv ct : Value} (X : K.In h) (G : h.Ns mainGlobals mg)
    (a : PySem.W.nsIn K mainGlobals x = some (some (.ref f))) (l : K.lookup f = some ⟨oc, od, .func (PySem.W.fnOf x x (defArgs st) (defBody st) (defScope st) .none kV doc pm an cdv ct), osl⟩)
    (c : PySem.W.codeIn K cdv x = true) (k : PySem.W.keepIn K (.ref f) = true)
    (hb : ∀ (kV doc pm : Value) (an : Option Addr) (cdv ct : Value) (us : List Value), us.length = ps.length → bindArgs (PySem.W.fnOf x x (defArgs st) (defBody st) (defScope st) .none kV doc pm an cdv ct) ⟨us, []⟩ = pure (ps.zip us)) : IsFn K mg x st ps :=
  ⟨f, _, PySem.W.mg_of X G a, fun_mk l c k, (fun_mk l c k).binds hb⟩
end Fx

namespace Fx
open PySem PySem.Spec PyProof.Rows L2

/-! ### the mirrors, evaluated -/
section
variable {α β : Type} {sd sd1 sd2 : Sl} {S S1 S2 : List Cell}
@[simp] theorem bind_ok (a : α) (f : α → List Cell → Res β) : (Res.ok a S).bind f = f a S := (rfl)
@[simp] theorem bind_exc (x : Ex) (f : α → List Cell → Res β) : (Res.exc x S).bind f = .exc x S := (rfl)
@[simp] theorem bind_stk (f : α → List Cell → Res β) : (Res.stk : Res α).bind f = .stk := (rfl)
@[simp] theorem thenS_ok (a : α) (f : α → List Cell → ResS) : (Res.ok a S).thenS sd f = f a S := (rfl)
@[simp] theorem thenS_exc (x : Ex) (f : α → List Cell → ResS) : (Res.exc x S : Res α).thenS sd f = .exc x sd S := (rfl)
@[simp] theorem thenS_stk (f : α → List Cell → ResS) : (Res.stk : Res α).thenS sd f = .stk := (rfl)
@[simp] theorem mC_ev (d : D) : mC d sd S = .ok d S := (rfl)
@[simp] theorem mVar_ev (i : Nat) : mVar i sd S = match sd[i]? with | some (some d) => .ok d S | _ => .stk := (rfl)
@[simp] theorem mNil_ev : mNil sd S = .ok [] S := (rfl)
@[simp] theorem mCons_ev (m : ME) (r : MA) : mCons m r sd S = (m sd S).bind fun d S1 => (r sd S1).bind fun ds S2 => .ok (d :: ds) S2 := (rfl)
@[simp] theorem mTup_ev (m : MA) : mTup m sd S = (m sd S).bind fun ds S1 => if ds.length ≤ sizeLine then .ok (.tup ds) S1 else .stk := (rfl)
@[simp] theorem mLst_ev (m : MA) : mLst m sd S = (m sd S).bind fun ds S1 => if ds.length ≤ sizeLine then .ok (.loc S1.length) (S1 ++ [.lst ds]) else .stk := (rfl)
@[simp] theorem mLst'_ev (m : MA) : mLst' m sd S = (m sd S).bind fun ds S1 => if ds.length ≤ sizeLine then .ok ds S1 else .stk := (rfl)
@[simp] theorem mBin_ev (o : O2) (a b : ME) : mBin o a b sd S = (a sd S).bind fun d S1 => (b sd S1).bind fun e S2 => o d e S2 := (rfl)
@[simp] theorem mNeg_ev (m : ME) : mNeg m sd S = (m sd S).bind fun d S1 => match d with | .int i => .ok (.int (-i)) S1 | _ => .stk := (rfl)
@[simp] theorem mCall_ev (f : List D → List Cell → Res D) (a : MA) : mCall f a sd S = (a sd S).bind fun ds S1 => f ds S1 := (rfl)
@[simp] theorem mB_ev (f : OC) (a : MA) : mB f a sd S = (a sd S).bind fun ds S1 => f ds S1 := (rfl)
@[simp] theorem mF_ev (f : OF) (a : ML) : mF f a sd S = (a sd S).bind fun ds S1 => f ds S1 := (rfl)
@[simp] theorem mFresh_ev (m : ML) : mFresh m sd S = (m sd S).bind fun ds S1 => .ok (.loc S1.length) (S1 ++ [.lst ds]) := (rfl)
@[simp] theorem mTru_ev (m : ME) : mTru m sd S = (m sd S).bind fun d S1 => optR (truD S1 d) S1 := (rfl)
@[simp] theorem mTst_ev (m : ME) : mTst m sd S = (m sd S).bind fun d S1 => optR (blD d) S1 := (rfl)
@[simp] theorem mChain_ev (o o' : O2) (a b c : ME) : mChain o o' a b c sd S = (a sd S).bind fun d S1 => (b sd S1).bind fun e S2 => (o d e S2).bind fun z S3 => match z with
  | .bl k => if k = true then (c sd S3).bind fun f S4 => o' e f S4 else .ok (.bl false) S3
  | _ => .stk := (rfl)
@[simp] theorem mAnd_ev (a b : MT) : mAnd a b sd S = (a sd S).bind fun c S1 => if c = true then b sd S1 else .ok false S1 := (rfl)
@[simp] theorem mOr_ev (a b : MT) : mOr a b sd S = (a sd S).bind fun c S1 => if c = true then .ok true S1 else b sd S1 := (rfl)
@[simp] theorem mNot_ev (a : MT) : mNot a sd S = (a sd S).bind fun c S1 => .ok (!c) S1 := (rfl)
@[simp] theorem mYes_ev : mYes sd S = .ok true S := (rfl)
@[simp] theorem mAndV_ev (a b : ME) : mAndV a b sd S = (a sd S).bind fun d S1 => match truD S1 d with | some true => b sd S1 | some false => .ok d S1 | none => .stk := (rfl)
@[simp] theorem mOrV_ev (a b : ME) : mOrV a b sd S = (a sd S).bind fun d S1 => match truD S1 d with | some true => .ok d S1 | some false => b sd S1 | none => .stk := (rfl)
@[simp] theorem mNotV_ev (a : ME) : mNotV a sd S = (a sd S).bind fun d S1 => match truD S1 d with | some b => .ok (.bl (!b)) S1 | none => .stk := (rfl)
@[simp] theorem mIfE_ev (t : MT) (a b : ME) : mIfE t a b sd S = (t sd S).bind fun c S1 => if c = true then a sd S1 else b sd S1 := (rfl)
@[simp] theorem mIsi_ev (T : String) (m : ME) : mIsi T m sd S = (m sd S).bind fun d S1 => match isiD S1 T d with | some b => .ok (.bl b) S1 | none => .stk := (rfl)
@[simp] theorem mNoPart_ev : mNoPart sd S = .ok none S := (rfl)
@[simp] theorem mPart_ev (m : ME) : mPart m sd S = (m sd S).bind fun d S1 => match intD d with | some i => .ok (some i) S1 | none => .stk := (rfl)
@[simp] theorem mSlice_ev (m : ME) (lo hi : MO) : mSlice m lo hi sd S = (m sd S).bind fun d S1 => (lo sd S1).bind fun l S2 => (hi sd S2).bind fun h S3 => oSl d l h S3 := (rfl)
@[simp] theorem mNext_ev : mNext sd S = .nx sd S := (rfl)
@[simp] theorem mBreak_ev : mBreak sd S = .bk sd S := (rfl)
@[simp] theorem mCont_ev : mCont sd S = .ct sd S := (rfl)
@[simp] theorem mSeq_ev (a b : MS) : mSeq a b sd S = match a sd S with
  | .nx sd1 S1 => b sd1 S1
  | .rt d S1 => .rt d S1
  | .bk sd1 S1 => .bk sd1 S1
  | .ct sd1 S1 => .ct sd1 S1
  | .exc x sd1 S1 => .exc x sd1 S1
  | .stk => .stk := (rfl)
@[simp] theorem mRet_ev (m : ME) : mRet m sd S = (m sd S).thenS sd fun d S1 => .rt d S1 := (rfl)
@[simp] theorem mRetN_ev : mRetN sd S = .rt .non S := (rfl)
@[simp] theorem mExpr_ev (m : ME) : mExpr m sd S = (m sd S).thenS sd fun _ S1 => .nx sd S1 := (rfl)
@[simp] theorem mIf_ev (t : MT) (a b : MS) : mIf t a b sd S = (t sd S).thenS sd fun c S1 => if c = true then a sd S1 else b sd S1 := (rfl)
@[simp] theorem mSet_ev (i : Nat) (m : ME) : mSet i m sd S = (m sd S).thenS sd fun d S1 => .nx (sd.set i (some d)) S1 := (rfl)
@[simp] theorem mAsg_ev (g : MG) (m : ME) : mAsg g m sd S = (m sd S).thenS sd fun d S1 => (g d sd S1).thenS sd fun sd2 S2 => .nx sd2 S2 := (rfl)
@[simp] theorem mAug_ev (i : Nat) (o : O2) (m : ME) : mAug i o m sd S = (mVar i sd S).thenS sd fun d S1 => (m sd S1).thenS sd fun e S2 => (o d e S2).thenS sd fun f S3 => .nx (sd.set i (some f)) S3 := (rfl)
@[simp] theorem gN_ev (i : Nat) (d : D) : gN i d sd S = .ok (sd.set i (some d)) S := (rfl)
@[simp] theorem gTupD_ev (n : Nat) (g : MGs) (d : D) : gTupD n g d sd S = match d with | .tup ds => if ds.length = n then g ds sd S else .stk | _ => .stk := (rfl)
@[simp] theorem gsNil_ev : gsNil [] sd S = .ok sd S := (rfl)
@[simp] theorem gsCons_ev (g : MG) (r : MGs) (d : D) (ds : List D) : gsCons g r (d :: ds) sd S = (g d sd S).bind fun sd1 S1 => r ds sd1 S1 := (rfl)
@[simp] theorem gSubL_ev (o i : ME) (v : D) : gSubL o i v sd S = (o sd S).bind fun d S1 => (i sd S1).bind fun e S2 => match d, e with
  | .loc n, .int k => match mlst S2 n with
    | some xs => match ixN xs.length k with
      | some j => .ok sd (S2.set n (.lst (xs.set j v)))
      | none => .stk
    | none => .stk
  | _, _ => .stk := (rfl)
@[simp] theorem mAppend_ev (o a : ME) : mAppend o a sd S = (o sd S).bind fun d S1 => match d with
  | .loc n => match mlst S1 n with
    | none => .stk
    | some _ => (a sd S1).bind fun e S2 => match mlst S2 n with
      | some xs => if xs.length < sizeLine then .ok .non (S2.set n (.lst (xs ++ [e]))) else .stk
      | none => .stk
  | _ => .stk := (rfl)
@[simp] theorem mPar_ev (i j : Nat) (a : MA) : mPar i j a sd S = match a sd S with
  | .ok [d, e] S1 => .nx ((sd.set i (some d)).set j (some e)) S1
  | .exc x S1 => .exc x sd S1
  | _ => .stk := (rfl)
@[simp] theorem mPar3_ev (i j l : Nat) (a : MA) : mPar3 i j l a sd S = match a sd S with
  | .ok [d, e, f] S1 => .nx (((sd.set i (some d)).set j (some e)).set l (some f)) S1
  | .exc x S1 => .exc x sd S1
  | _ => .stk := (rfl)
@[simp] theorem mSeqI_ev (m : ME) : mSeqI m sd S = (m sd S).bind fun d S1 => match d with
  | .tup xs => .ok ⟨xs, none⟩ S1
  | .cst xs => .ok ⟨xs, none⟩ S1
  | .loc n => match cellL S1 n with
    | some xs => .ok ⟨xs, some n⟩ S1
    | none => .stk
  | .str x => .ok ⟨x.map fun c => .str [c], none⟩ S1
  | _ => .stk := (rfl)
@[simp] theorem mRng1_ev (a : MA) : mRng1 a sd S = (a sd S).bind fun ds S1 => match ds with
  | [.int j] => if c62 j then .ok ⟨rngD 0 j.toNat, none⟩ S1 else .stk
  | _ => .stk := (rfl)
@[simp] theorem mRng2_ev (a : MA) : mRng2 a sd S = (a sd S).bind fun ds S1 => match ds with
  | [.int i, .int j] => if c62 i && c62 j then .ok ⟨rngD i (j - i).toNat, none⟩ S1 else .stk
  | _ => .stk := (rfl)
@[simp] theorem mFor_ev (mi : MI) (g : MG) (b : MS) : mFor mi g b sd S = (mi sd S).thenS sd fun it S1 => forGo it g b it.xs sd S1 := (rfl)
@[simp] theorem mLc_ev (mi : MI) (ws : List Nat) (g : MG) (t : MT) (e : ME) : mLc mi ws g t e sd S = (mi sd S).bind fun it S1 => lcGo it ws g t e sd it.xs [] S1 := (rfl)
@[simp] theorem mWhile_ev (n : Nat) (t : MT) (b : MS) : mWhile n t b sd S = whGo t b n sd S := (rfl)
@[simp] theorem optR_some (a : α) : optR (some a) S = .ok a S := (rfl)
@[simp] theorem optR_none : optR (none : Option α) S = .stk := (rfl)
@[simp] theorem blD_bl (b : Bool) : blD (.bl b) = some b := (rfl)
@[simp] theorem intD_int (i : Int) : intD (.int i) = some i := (rfl)
@[simp] theorem truD_bl (b : Bool) : truD S (.bl b) = some b := (rfl)
@[simp] theorem truD_int (b : Int) : truD S (.int b) = some (b != 0) := (rfl)
@[simp] theorem truD_non : truD S .non = some false := (rfl)
@[simp] theorem truD_tup (l : List D) : truD S (.tup l) = some (!l.isEmpty) := (rfl)
@[simp] theorem seqD_tup (l : List D) : seqD S (.tup l) = some l := (rfl)
@[simp] theorem seqD_cst (l : List D) : seqD S (.cst l) = some l := (rfl)
@[simp] theorem seqD_loc (n : Nat) : seqD S (.loc n) = cellL S n := (rfl)
@[simp] theorem lstD_loc (n : Nat) : lstD S (.loc n) = cellL S n := (rfl)
@[simp] theorem lstD_cst (l : List D) : lstD S (.cst l) = some l := (rfl)
@[simp] theorem isNonD_non : isNonD .non = true := (rfl)
@[simp] theorem isNonD_bl (b : Bool) : isNonD (.bl b) = false := (rfl)
@[simp] theorem isNonD_int (b : Int) : isNonD (.int b) = false := (rfl)
@[simp] theorem isNonD_str (b : List Nat) : isNonD (.str b) = false := (rfl)
@[simp] theorem isNonD_tup (b : List D) : isNonD (.tup b) = false := (rfl)
@[simp] theorem isNonD_cst (b : List D) : isNonD (.cst b) = false := (rfl)
@[simp] theorem isNonD_loc (b : Nat) : isNonD (.loc b) = false := (rfl)
@[simp] theorem tyD_non : tyD S .non = some "NoneType" := (rfl)
@[simp] theorem tyD_bl (b : Bool) : tyD S (.bl b) = some "bool" := (rfl)
@[simp] theorem tyD_int (b : Int) : tyD S (.int b) = some "int" := (rfl)
@[simp] theorem tyD_str (b : List Nat) : tyD S (.str b) = some "str" := (rfl)
@[simp] theorem tyD_tup (b : List D) : tyD S (.tup b) = some "tuple" := (rfl)
@[simp] theorem tyD_cst (b : List D) : tyD S (.cst b) = some "list" := (rfl)
@[simp] theorem tyD_loc (b : Nat) : tyD S (.loc b) = match S[b]? with | some (.lst _) => some "list" | some (.dic _) => some "dict" | _ => none := (rfl)
theorem tyD_cell {n : Nat} {xs : List D} (h : cellL S n = some xs) : tyD S (.loc n) = some "list" := by
  unfold cellL at h
  unfold tyD
  simp only
  split at h
  · rename_i ys e
    rw [e]
  · cases h
theorem kb {a b : String} {r : Bool} (h : kitB a b = some r) : (some a).bind (fun t => kitB t b) = some r := h
@[simp] theorem isi_non_int : isiD S "int" .non = some false := kb (a := "NoneType") (by decide +kernel)
@[simp] theorem isi_non_bool : isiD S "bool" .non = some false := kb (a := "NoneType") (by decide +kernel)
@[simp] theorem isi_non_str : isiD S "str" .non = some false := kb (a := "NoneType") (by decide +kernel)
@[simp] theorem isi_non_tuple : isiD S "tuple" .non = some false := kb (a := "NoneType") (by decide +kernel)
@[simp] theorem isi_non_list : isiD S "list" .non = some false := kb (a := "NoneType") (by decide +kernel)
@[simp] theorem isi_bl_int (b : Bool) : isiD S "int" (.bl b) = some true := kb (by decide +kernel)
@[simp] theorem isi_bl_bool (b : Bool) : isiD S "bool" (.bl b) = some true := kb (by decide +kernel)
@[simp] theorem isi_bl_str (b : Bool) : isiD S "str" (.bl b) = some false := kb (by decide +kernel)
@[simp] theorem isi_bl_tuple (b : Bool) : isiD S "tuple" (.bl b) = some false := kb (by decide +kernel)
@[simp] theorem isi_bl_list (b : Bool) : isiD S "list" (.bl b) = some false := kb (by decide +kernel)
@[simp] theorem isi_int_int (b : Int) : isiD S "int" (.int b) = some true := kb (by decide +kernel)
@[simp] theorem isi_int_bool (b : Int) : isiD S "bool" (.int b) = some false := kb (by decide +kernel)
@[simp] theorem isi_int_str (b : Int) : isiD S "str" (.int b) = some false := kb (by decide +kernel)
@[simp] theorem isi_int_tuple (b : Int) : isiD S "tuple" (.int b) = some false := kb (by decide +kernel)
@[simp] theorem isi_int_list (b : Int) : isiD S "list" (.int b) = some false := kb (by decide +kernel)
@[simp] theorem isi_str_int (b : List Nat) : isiD S "int" (.str b) = some false := kb (by decide +kernel)
@[simp] theorem isi_str_bool (b : List Nat) : isiD S "bool" (.str b) = some false := kb (by decide +kernel)
@[simp] theorem isi_str_str (b : List Nat) : isiD S "str" (.str b) = some true := kb (by decide +kernel)
@[simp] theorem isi_str_tuple (b : List Nat) : isiD S "tuple" (.str b) = some false := kb (by decide +kernel)
@[simp] theorem isi_str_list (b : List Nat) : isiD S "list" (.str b) = some false := kb (by decide +kernel)
@[simp] theorem isi_tup_int (b : List D) : isiD S "int" (.tup b) = some false := kb (by decide +kernel)
@[simp] theorem isi_tup_bool (b : List D) : isiD S "bool" (.tup b) = some false := kb (by decide +kernel)
@[simp] theorem isi_tup_str (b : List D) : isiD S "str" (.tup b) = some false := kb (by decide +kernel)
@[simp] theorem isi_tup_tuple (b : List D) : isiD S "tuple" (.tup b) = some true := kb (by decide +kernel)
@[simp] theorem isi_tup_list (b : List D) : isiD S "list" (.tup b) = some false := kb (by decide +kernel)
@[simp] theorem isi_cst_int (b : List D) : isiD S "int" (.cst b) = some false := kb (by decide +kernel)
@[simp] theorem isi_cst_bool (b : List D) : isiD S "bool" (.cst b) = some false := kb (by decide +kernel)
@[simp] theorem isi_cst_str (b : List D) : isiD S "str" (.cst b) = some false := kb (by decide +kernel)
@[simp] theorem isi_cst_tuple (b : List D) : isiD S "tuple" (.cst b) = some false := kb (by decide +kernel)
@[simp] theorem isi_cst_list (b : List D) : isiD S "list" (.cst b) = some true := kb (by decide +kernel)
theorem kl {n : Nat} {xs : List D} {b : String} {r : Bool} (h : kitB "list" b = some r) (hc : cellL S n = some xs) : isiD S b (.loc n) = some r := by
  unfold isiD
  rw [tyD_cell hc]
  exact h
theorem isi_loc_int {n : Nat} {xs : List D} (h : cellL S n = some xs) : isiD S "int" (.loc n) = some false := kl (by decide +kernel) h
theorem isi_loc_bool {n : Nat} {xs : List D} (h : cellL S n = some xs) : isiD S "bool" (.loc n) = some false := kl (by decide +kernel) h
theorem isi_loc_str {n : Nat} {xs : List D} (h : cellL S n = some xs) : isiD S "str" (.loc n) = some false := kl (by decide +kernel) h
theorem isi_loc_tuple {n : Nat} {xs : List D} (h : cellL S n = some xs) : isiD S "tuple" (.loc n) = some false := kl (by decide +kernel) h
theorem isi_loc_list {n : Nat} {xs : List D} (h : cellL S n = some xs) : isiD S "list" (.loc n) = some true := kl (by decide +kernel) h
@[simp] theorem oLen_tup (xs : List D) : oLen [.tup xs] S = .ok (.int xs.length) S := (rfl)
@[simp] theorem oLen_cst (xs : List D) : oLen [.cst xs] S = .ok (.int xs.length) S := (rfl)
@[simp] theorem oLen_loc (n : Nat) : oLen [.loc n] S = match cellL S n with | some xs => .ok (.int xs.length) S | none => .stk := (rfl)
@[simp] theorem oTupF_ev (ds : List D) : oTupF ds S = .ok (.tup ds) S := (rfl)
@[simp] theorem oAllF_ev (ds : List D) : oAllF ds S = match blsD ds with | some bs => .ok (.bl (bs.all id)) S | none => .stk := (rfl)
@[simp] theorem oAnyF_ev (ds : List D) : oAnyF ds S = match blsD ds with | some bs => .ok (.bl (bs.any id)) S | none => .stk := (rfl)
@[simp] theorem oSumF_ev (ds : List D) : oSumF ds S = match intsD ds with | some bs => .ok (.int bs.sum) S | none => .stk := (rfl)
@[simp] theorem oLenF_ev (ds : List D) : oLenF ds S = .ok (.int ds.length) S := (rfl)
@[simp] theorem oInt_ev (c : Int → Int → Bool) (g : Int → Int → D) (i j : Int) : oInt c g (.int i) (.int j) S = if c i j then .ok (g i j) S else .stk := (rfl)
@[simp] theorem oAdd_int (i j : Int) : oAdd (.int i) (.int j) S = .ok (.int (i + j)) S := (rfl)
@[simp] theorem oAdd_tup (x y : List D) : oAdd (.tup x) (.tup y) S = if x.length + y.length ≤ sizeLine then .ok (.tup (x ++ y)) S else .stk := (rfl)
@[simp] theorem oAdd_str (x y : List Nat) : oAdd (.str x) (.str y) S = if x.length + y.length ≤ sizeLine then .ok (.str (x ++ y)) S else .stk := (rfl)
@[simp] theorem oAdd_loc (n m : Nat) : oAdd (.loc n) (.loc m) S = match mlst S n, mlst S m with
    | some x, some y => if x.length + y.length ≤ sizeLine then .ok (.loc S.length) (S ++ [.lst (x ++ y)]) else .stk
    | _, _ => .stk := (rfl)
@[simp] theorem oMulL_int (i j : Int) : oMulL (.int i) (.int j) S = if cMul i j then .ok (.int (i * j)) S else .stk := (rfl)
@[simp] theorem oMulL_loc (n : Nat) (k : Int) : oMulL (.loc n) (.int k) S = match mlst S n with
    | some x => if -(2 ^ 63) ≤ k ∧ k < 2 ^ 63 ∧ x.length * k.toNat ≤ sizeLine then .ok (.loc S.length) (S ++ [.lst (List.replicate k.toNat x).flatten]) else .stk
    | _ => .stk := (rfl)
@[simp] theorem oSl_tup (x : List D) (lo hi : Option Int) : oSl (.tup x) lo hi S = .ok (.tup (cutG x lo hi)) S := (rfl)
@[simp] theorem oIx_tup (xs : List D) (i : Int) : oIx (.tup xs) (.int i) S = optR (atI xs i) S := (rfl)
@[simp] theorem oIx_cst (xs : List D) (i : Int) : oIx (.cst xs) (.int i) S = optR (atI xs i) S := (rfl)
@[simp] theorem oIx_loc (n : Nat) (i : Int) : oIx (.loc n) (.int i) S = optR ((cellL S n).bind fun xs => atI xs i) S := (rfl)
@[simp] theorem oListC_seq (d : D) : oListC [d] S = match seqD S d with | some xs => .ok (.loc S.length) (S ++ [.lst xs]) | none => .stk := (rfl)
@[simp] theorem oTupC_seq (d : D) : oTupC [d] S = match seqD S d with | some xs => .ok (.tup xs) S | none => .stk := (rfl)
@[simp] theorem oSum_seq (d : D) : oSum [d] S = match (seqD S d).bind intsD with | some ns => .ok (.int ns.sum) S | none => .stk := (rfl)
@[simp] theorem oAbs_int (i : Int) : oAbs [.int i] S = .ok (.int (if i < 0 then -i else i)) S := (rfl)
@[simp] theorem oIntC_int (i : Int) : oIntC [.int i] S = .ok (.int i) S := (rfl)
@[simp] theorem oLt_int (i j : Int) : oLt (.int i) (.int j) S = .ok (.bl (decide (i < j))) S := (rfl)
@[simp] theorem oLe_int (i j : Int) : oLe (.int i) (.int j) S = .ok (.bl (decide (i ≤ j))) S := (rfl)
@[simp] theorem oIsN_non (d : D) : oIsN d .non S = .ok (.bl (isNonD d)) S := (rfl)
@[simp] theorem oNotN_non (d : D) : oNotN d .non S = .ok (.bl (!isNonD d)) S := (rfl)
@[simp] theorem pyD_int (n : Nat) (i : Int) : pyD n S (.int i) = some (.int i) := by cases n <;> rfl
@[simp] theorem pyD_bl (n : Nat) (i : Bool) : pyD n S (.bl i) = some (.bool i) := by cases n <;> rfl
@[simp] theorem pyD_non (n : Nat) : pyD n S .non = some .none := by cases n <;> rfl
@[simp] theorem pyD_str (n : Nat) (x : List Nat) : pyD n S (.str x) = if x.all (· < 0x110000) then some (.str ⟨x.toArray⟩) else none := by cases n <;> rfl
@[simp] theorem pyD_tup (n : Nat) (l : List D) : pyD (n + 1) S (.tup l) = (l.mapM (pyD n S)).map .tuple := (rfl)
@[simp] theorem pyD_cst (n : Nat) (l : List D) : pyD (n + 1) S (.cst l) = (l.mapM (pyD n S)).map .list := (rfl)
@[simp] theorem pyD_loc (n : Nat) (k : Nat) : pyD (n + 1) S (.loc k) = (cellL S k).bind fun xs => (xs.mapM (pyD n S)).map .list := (rfl)
@[simp] theorem oEq_int (i j : Int) : oEq (.int i) (.int j) S = .ok (.bl (i == j)) S := by simp [oEq, eqD, PyData.eqv]
@[simp] theorem oEq_bl (i j : Bool) : oEq (.bl i) (.bl j) S = .ok (.bl (i == j)) S := by simp [oEq, eqD, PyData.eqv]
@[simp] theorem oNe_int (i j : Int) : oNe (.int i) (.int j) S = .ok (.bl (i != j)) S := by simp [oNe, eqD, PyData.eqv, bne]
@[simp] theorem okAt_none (xs : List D) : (⟨xs, none⟩ : ItD).okAt S ↔ True := Iff.rfl
/-! the store -/
@[simp] theorem cellL_ev (n : Nat) : cellL S n = match S[n]? with | some (.lst xs) => some xs | _ => none := (rfl)
@[simp] theorem mlst_ev (n : Nat) : mlst S n = match S[n]? with | some (.lst xs) => some xs | _ => none := (rfl)
end

/-! ### loops -/
section
variable {it : ItD} {g : MG} {b : MS} {t : MT} {e : ME} {ws : List Nat}
/-- a for, by what holds of the items that are left, the slots and the store -/
theorem forGo_ind (J : List D → Sl → List Cell → Prop) (R : ResS → Prop) (hok : ∀ r sd S, J r sd S → it.okAt S) (hnil : ∀ sd S, J [] sd S → R (.nx sd S))
    (step : ∀ x r sd S, J (x :: r) sd S → ∃ sd1 S1, g x sd S = .ok sd1 S1 ∧ (match b sd1 S1 with
      | .nx sd2 S2 => J r sd2 S2 | .ct sd2 S2 => J r sd2 S2 | .bk sd2 S2 => R (.nx sd2 S2) | .rt d S2 => R (.rt d S2) | .exc x sd2 S2 => R (.exc x sd2 S2) | .stk => False)) :
    ∀ xs sd S, J xs sd S → R (forGo it g b xs sd S)
  | [], sd, S, h => by
    unfold forGo
    rw [if_pos (hok _ _ _ h)]
    exact hnil sd S h
  | x :: r, sd, S, h => by
    unfold forGo
    rw [if_pos (hok _ _ _ h)]
    obtain ⟨sd1, S1, e1, h1⟩ := step x r sd S h
    rw [e1]
    simp only
    generalize b sd1 S1 = rb at h1
    cases rb with
    | nx sd2 S2 => exact forGo_ind J R hok hnil step r sd2 S2 h1
    | ct sd2 S2 => exact forGo_ind J R hok hnil step r sd2 S2 h1
    | bk sd2 S2 => exact h1
    | rt d S2 => exact h1
    | exc x sd2 S2 => exact h1
    | stk => exact h1.elim
/-- .. that runs through, its end by the invariant -/
theorem forGo_run (J : List D → Sl → List Cell → Prop) (hok : ∀ r sd S, J r sd S → it.okAt S)
    (step : ∀ x r sd S, J (x :: r) sd S → ∃ sd1 S1 sd2 S2, g x sd S = .ok sd1 S1 ∧ b sd1 S1 = .nx sd2 S2 ∧ J r sd2 S2) {xs : List D} {sd : Sl} {S : List Cell} (h : J xs sd S) : ∃ sd' S', forGo it g b xs sd S = .nx sd' S' ∧ J [] sd' S' :=
  forGo_ind J (fun r => ∃ sd' S', r = .nx sd' S' ∧ J [] sd' S') hok (fun sd S h => ⟨sd, S, rfl, h⟩) (fun x r sd S h => by
    obtain ⟨sd1, S1, sd2, S2, e1, e2, h2⟩ := step x r sd S h
    refine ⟨sd1, S1, e1, ?_⟩
    rw [e2]
    exact h2) xs sd S h
/-- a while, by an invariant and a measure -/
theorem whGo_ind (J : Sl → List Cell → Prop) (μ : Sl → List Cell → Nat) (R : ResS → Prop)
    (step : ∀ sd S, J sd S → ∃ c S1, t sd S = .ok c S1 ∧ (if c = true then (match b sd S1 with
      | .nx sd2 S2 => J sd2 S2 ∧ μ sd2 S2 < μ sd S | .ct sd2 S2 => J sd2 S2 ∧ μ sd2 S2 < μ sd S | .bk sd2 S2 => R (.nx sd2 S2) | .rt d S2 => R (.rt d S2) | .exc x sd2 S2 => R (.exc x sd2 S2) | .stk => False) else R (.nx sd S1))) :
    ∀ n sd S, J sd S → μ sd S < n → R (whGo t b n sd S)
  | 0, sd, S, h, hn => absurd hn (Nat.not_lt_zero _)
  | n + 1, sd, S, h, hn => by
    obtain ⟨c, S1, e1, h1⟩ := step sd S h
    unfold whGo
    rw [e1, thenS_ok]
    cases c with
    | false => exact h1
    | true =>
      rw [if_pos rfl] at h1 ⊢
      generalize b sd S1 = rb at h1
      cases rb with
      | nx sd2 S2 => exact whGo_ind J μ R step n sd2 S2 h1.1 (by omega)
      | ct sd2 S2 => exact whGo_ind J μ R step n sd2 S2 h1.1 (by omega)
      | bk sd2 S2 => exact h1
      | rt d S2 => exact h1
      | exc x sd2 S2 => exact h1
      | stk => exact h1.elim
/-- a comprehension, by what holds of the items left, the list so far and the store -/
theorem lcGo_run {sd : Sl} (J : List D → List D → List Cell → Prop) (hok : ∀ r acc S, J r acc S → it.okAt S)
    (step : ∀ x r acc S, J (x :: r) acc S → ∃ sd1 S1 c S2, g x (wipeD sd ws) S = .ok sd1 S1 ∧ t sd1 S1 = .ok c S2 ∧ (if c = true then ∃ y S3, e sd1 S2 = .ok y S3 ∧ acc.length < sizeLine ∧ J r (acc ++ [y]) S3 else J r acc S2)) :
    ∀ xs acc S, J xs acc S → ∃ acc' S', lcGo it ws g t e sd xs acc S = .ok acc' S' ∧ J [] acc' S'
  | [], acc, S, h => by
    unfold lcGo
    rw [if_pos (hok _ _ _ h)]
    exact ⟨acc, S, rfl, h⟩
  | x :: r, acc, S, h => by
    unfold lcGo
    rw [if_pos (hok _ _ _ h)]
    obtain ⟨sd1, S1, c, S2, e1, e2, h1⟩ := step x r acc S h
    rw [e1]
    simp only [e2]
    cases c with
    | true =>
      rw [if_pos rfl] at h1 ⊢
      obtain ⟨y, S3, e3, hz, h3⟩ := h1
      rw [e3]
      simp only [hz, if_true]
      exact lcGo_run J hok step r _ S3 h3
    | false =>
      rw [if_neg Bool.false_ne_true] at h1 ⊢
      exact lcGo_run J hok step r _ S2 h1
/-- .. that maps, the store staying as it is -/
theorem lcGo_map {sd : Sl} {S : List Cell} (f : D → D) (hok : it.okAt S) : ∀ (xs acc : List D), (∀ x ∈ xs, ∃ sd1, g x (wipeD sd ws) S = .ok sd1 S ∧ t sd1 S = .ok true S ∧ e sd1 S = .ok (f x) S) → acc.length + xs.length ≤ sizeLine →
    lcGo it ws g t e sd xs acc S = .ok (acc ++ xs.map f) S
  | [], acc, _, _ => by
    unfold lcGo
    rw [if_pos hok]
    simp
  | x :: r, acc, h, hz => by
    unfold lcGo
    rw [if_pos hok]
    obtain ⟨sd1, e1, e2, e3⟩ := h x (by simp)
    rw [List.length_cons] at hz
    simp only [e1, e2, e3, if_true, if_pos (show acc.length < sizeLine by omega)]
    rw [lcGo_map f hok r (acc ++ [f x]) (fun y hy => h y (by simp [hy])) (by simp; omega)]
    simp
/-- .. with a test -/
theorem lcGo_filter {sd : Sl} {S : List Cell} (p : D → Bool) (f : D → D) (hok : it.okAt S) : ∀ (xs acc : List D), (∀ x ∈ xs, ∃ sd1, g x (wipeD sd ws) S = .ok sd1 S ∧ t sd1 S = .ok (p x) S ∧ (p x = true → e sd1 S = .ok (f x) S)) → acc.length + xs.length ≤ sizeLine →
    lcGo it ws g t e sd xs acc S = .ok (acc ++ (xs.filter p).map f) S
  | [], acc, _, _ => by
    unfold lcGo
    rw [if_pos hok]
    simp
  | x :: r, acc, h, hz => by
    unfold lcGo
    rw [if_pos hok]
    obtain ⟨sd1, e1, e2, e3⟩ := h x (by simp)
    rw [List.length_cons] at hz
    cases hp : p x with
    | true =>
      simp only [e1, e2, e3 hp, hp, if_true, if_pos (show acc.length < sizeLine by omega)]
      rw [lcGo_filter p f hok r (acc ++ [f x]) (fun y hy => h y (by simp [hy])) (by simp; omega)]
      simp [hp]
    | false =>
      simp only [e1, e2, hp, Bool.false_eq_true, if_false]
      rw [lcGo_filter p f hok r acc (fun y hy => h y (by simp [hy])) (by omega)]
      simp [hp]
end
/-- a law's own summary: it ends and gives True -/
noncomputable def mLaw (b : MS) (n : Nat) : List D → List Cell → Res D := by
  classical
  exact fun ds S => if S = [] ∧ ∃ S1, b (startD n ds) [] = .rt (.bl true) S1 then .ok (.bl true) [] else .stk
theorem mLaw_ref {b : MS} {n : Nat} (ds : List D) (S : List Cell) : RefR S (mLaw b n ds S) (b (startD n ds) S) := by
  unfold mLaw
  split
  · rename_i h
    obtain ⟨rfl, S1, e⟩ := h
    exact ⟨Nat.le_refl _, (by unfold D.bel; trivial), (fun c hc => .inl hc), S1, .inl (by simpa using e)⟩
  · trivial
theorem mLaw_true {b : MS} {n : Nat} {ds : List D} {S1 : List Cell} (h : b (startD n ds) [] = .rt (.bl true) S1) : ∃ S, mLaw b n ds [] = .ok (.bl true) S := by
  refine ⟨[], ?_⟩
  unfold mLaw
  rw [if_pos ⟨rfl, S1, h⟩]
/-- a def that changes nothing, and hands back data without cells -/
theorem ref_pure {S : List Cell} {d : D} {b : ResS} {junk : List Cell} (hd : d.bel S.length) (h : b = .rt d (S ++ junk)) : RefR S (.ok d S) b :=
  ⟨Nat.le_refl _, hd, fun c hc => .inl hc, junk, .inl h⟩
theorem ref_pure0 {S : List Cell} {d : D} {b : ResS} (hd : d.bel S.length) (h : b = .rt d S) : RefR S (.ok d S) b := ref_pure (junk := []) hd (by simpa using h)
@[simp] theorem bel_int {n : Nat} {i : Int} : D.bel n (.int i) ↔ True := by unfold D.bel; simp
@[simp] theorem bel_bl {n : Nat} {i : Bool} : D.bel n (.bl i) ↔ True := by unfold D.bel; simp
@[simp] theorem bel_non {n : Nat} : D.bel n .non ↔ True := by unfold D.bel; simp
@[simp] theorem bel_str {n : Nat} {i : List Nat} : D.bel n (.str i) ↔ True := by unfold D.bel; simp
@[simp] theorem bel_loc {n k : Nat} : D.bel n (.loc k) ↔ k < n := by unfold D.bel; exact Iff.rfl
@[simp] theorem bel_tup {n : Nat} {l : List D} : D.bel n (.tup l) ↔ D.belL n l := by unfold D.bel; exact Iff.rfl
@[simp] theorem bel_cst {n : Nat} {l : List D} : D.bel n (.cst l) ↔ D.belL n l := by unfold D.bel; exact Iff.rfl
@[simp] theorem belL_nil {n : Nat} : D.belL n [] ↔ True := by unfold D.belL; simp
@[simp] theorem belL_cons {n : Nat} {d : D} {l : List D} : D.belL n (d :: l) ↔ D.bel n d ∧ D.belL n l := by conv => lhs; unfold D.belL
theorem belL_of {n : Nat} : ∀ {l : List D}, (∀ d ∈ l, D.bel n d) → D.belL n l
  | [], _ => by simp
  | d :: l, h => by rw [belL_cons]; exact ⟨h d (by simp), belL_of fun e he => h e (by simp [he])⟩
theorem belL_ints {n : Nat} (l : List Int) : D.belL n (l.map D.int) := belL_of fun d hd => by
  obtain ⟨i, _, rfl⟩ := List.mem_map.mp hd
  simp
theorem intsD_map (ns : List Int) : intsD (ns.map D.int) = some ns := by
  induction ns with
  | nil => rfl
  | cons n ns ih => simp [intsD, ih]
theorem blsD_map (ns : List Bool) : blsD (ns.map D.bl) = some ns := by
  induction ns with
  | nil => rfl
  | cons n ns ih => simp [blsD, ih]
theorem atI_nat' {α : Type} (xs : List α) (j : Nat) : atI xs (j : Int) = xs[j]? := by
  cases h : xs[j]? with
  | some v => exact atI_nat h
  | none =>
    have hl := List.getElem?_eq_none_iff.mp h
    unfold atI ixN
    rw [if_pos (by omega), if_neg (by omega)]
    rfl
@[simp] theorem atI_zero {α : Type} (xs : List α) : atI xs 0 = xs[0]? := atI_nat' xs 0
@[simp] theorem atI_lit {α : Type} (xs : List α) (n : Nat) : atI xs (no_index (OfNat.ofNat n : Int)) = xs[(no_index (OfNat.ofNat n) : Nat)]? := atI_nat' xs n
@[simp] theorem atI_one {α : Type} (xs : List α) : atI xs 1 = xs[1]? := atI_nat' xs 1
@[simp] theorem ixN_zero {n : Nat} : ixN n 0 = if 0 < n then some 0 else none := by
  unfold ixN
  by_cases h : 0 < n
  · simp [h]
  · have : n = 0 := by omega
    subst this; simp
@[simp] theorem ixN_one {n : Nat} : ixN n 1 = if 1 < n then some 1 else none := by
  unfold ixN
  by_cases h : 1 < n
  · rw [if_pos (by omega), if_pos (by omega), if_pos h]; rfl
  · rw [if_pos (by omega), if_neg (by omega), if_neg h]
theorem ixN_nat {n j : Nat} (h : j < n) : ixN n (j : Int) = some j := by
  unfold ixN
  rw [if_pos (by omega), if_pos (by omega)]
  simp
end Fx
namespace Fx
open PySem PySem.Spec PyProof.Rows L2
theorem rngD_length (lo : Int) (n : Nat) : (rngD lo n).length = n := by simp [rngD]
theorem rngD_drop (lo : Int) (n i : Nat) (h : i < n) : (rngD lo n).drop i = .int (lo + (i : Nat)) :: (rngD lo n).drop (i + 1) := by
  rw [List.drop_eq_getElem_cons (by rw [rngD_length]; exact h)]
  congr 1
  simp [rngD]
/-- a for over a range, by an invariant of the turn's number -/
theorem forGo_rng {g : MG} {b : MS} {lo : Int} {n : Nat} (J : Nat → Sl → List Cell → Prop)
    (step : ∀ i sd S, i < n → J i sd S → ∃ sd1 S1 sd2 S2, g (.int (lo + (i : Nat))) sd S = .ok sd1 S1 ∧ b sd1 S1 = .nx sd2 S2 ∧ J (i + 1) sd2 S2) {sd : Sl} {S : List Cell} (h : J 0 sd S) :
    ∃ sd' S', forGo ⟨rngD lo n, none⟩ g b (rngD lo n) sd S = .nx sd' S' ∧ J n sd' S' := by
  obtain ⟨sd', S', e, i, hi, e2, h2⟩ := forGo_run (it := ⟨rngD lo n, none⟩) (g := g) (b := b) (fun xs sd S => ∃ i, i ≤ n ∧ xs = (rngD lo n).drop i ∧ J i sd S) (fun _ _ _ _ => trivial) (fun x r sd S ⟨i, hi, e, h⟩ => by
    by_cases hlt : i < n
    · rw [rngD_drop lo n i hlt] at e
      injection e with e1 e2
      subst e1 e2
      obtain ⟨sd1, S1, sd2, S2, a, b', c⟩ := step i sd S hlt h
      exact ⟨sd1, S1, sd2, S2, a, b', i + 1, hlt, rfl, c⟩
    · have : i = n := by omega
      subst this
      rw [List.drop_of_length_le (by rw [rngD_length]; exact Nat.le_refl _)] at e
      cases e) ⟨0, Nat.zero_le _, rfl, h⟩
  refine ⟨sd', S', e, ?_⟩
  have : i = n := by
    have := congrArg List.length e2
    rw [List.length_drop, rngD_length] at this
    simp at this
    omega
  subst this
  exact h2
/-- a for over items that stay as they are -/
theorem forGo_ix {g : MG} {b : MS} {xs : List D} {gd : Option Nat} (J : Nat → Sl → List Cell → Prop) (hok : ∀ i sd S, J i sd S → (⟨xs, gd⟩ : ItD).okAt S)
    (step : ∀ i x sd S, xs[i]? = some x → J i sd S → ∃ sd1 S1 sd2 S2, g x sd S = .ok sd1 S1 ∧ b sd1 S1 = .nx sd2 S2 ∧ J (i + 1) sd2 S2) {sd : Sl} {S : List Cell} (h : J 0 sd S) :
    ∃ sd' S', forGo ⟨xs, gd⟩ g b xs sd S = .nx sd' S' ∧ J xs.length sd' S' := by
  obtain ⟨sd', S', e, i, hi, e2, h2⟩ := forGo_run (it := ⟨xs, gd⟩) (g := g) (b := b) (fun ys sd S => ∃ i, i ≤ xs.length ∧ ys = xs.drop i ∧ J i sd S) (fun _ _ _ ⟨i, _, _, h⟩ => hok i _ _ h) (fun x r sd S ⟨i, hi, e, h⟩ => by
    by_cases hlt : i < xs.length
    · rw [List.drop_eq_getElem_cons hlt] at e
      injection e with e1 e2
      subst e1 e2
      obtain ⟨sd1, S1, sd2, S2, a, b', c⟩ := step i xs[i] sd S (by simp [hlt]) h
      exact ⟨sd1, S1, sd2, S2, a, b', i + 1, hlt, rfl, c⟩
    · have : i = xs.length := by omega
      subst this
      rw [List.drop_length] at e
      cases e) ⟨0, Nat.zero_le _, rfl, h⟩
  refine ⟨sd', S', e, ?_⟩
  have : i = xs.length := by
    have := congrArg List.length e2
    rw [List.length_drop] at this
    simp at this
    omega
  subst this
  exact h2
/-- [e for k in range(lo, lo + n)] -/
theorem lcGo_rng {g : MG} {t : MT} {e : ME} {ws : List Nat} {sd : Sl} {S : List Cell} {lo : Int} {n : Nat} (f : Nat → D) (hz : n ≤ sizeLine)
    (h : ∀ k, k < n → ∃ sd1, g (.int (lo + (k : Nat))) (wipeD sd ws) S = .ok sd1 S ∧ t sd1 S = .ok true S ∧ e sd1 S = .ok (f k) S) : lcGo ⟨rngD lo n, none⟩ ws g t e sd (rngD lo n) [] S = .ok ((List.range n).map f) S := by
  let F : D → D := fun d => match d with | .int i => f (i - lo).toNat | d => d
  have hF : ∀ k : Nat, F (.int (lo + (k : Nat))) = f k := fun k => by
    show f (lo + (k : Nat) - lo).toNat = f k
    congr 1
    omega
  rw [lcGo_map (it := ⟨rngD lo n, none⟩) F trivial (rngD lo n) [] (fun x hx => ?_) (by rw [rngD_length]; simpa using hz)]
  · congr 1
    unfold rngD
    rw [List.nil_append, List.map_map]
    exact List.map_congr_left fun k _ => hF k
  · obtain ⟨k, hk, rfl⟩ := List.mem_map.mp hx
    obtain ⟨sd1, a, b, c⟩ := h k (List.mem_range.mp hk)
    exact ⟨sd1, a, b, by rw [c, hF]⟩
theorem line_le {n : Nat} (h : n ≤ 16777216) : n ≤ sizeLine := by rw [sizeLine_eq]; exact h
end Fx

namespace Fx
open PySem PySem.Spec PyProof.Rows L2

/-! ### __init__(self, place) of an own exception, with super() -/
/-- what the text says of such a def: its place fI, its class D -/
abbrev scO (nm : List (Str × NameKind)) : Scope := { kind := .function, names := nm, isGenerator := false, isCoroutine := false }
structure InitF (P : Program) (K : PySem.W.Frag) (mg : Str → Option Value) (qual : Str) (st : Stmt) (nm : List (Str × NameKind)) (fI cc D : Addr) (cdv : Value) (fd : FuncData) : Prop where
  ex : ∃ (oc : Value) (od : Option Addr) (kV doc pm : Value) (an : Option Addr) (ct : Value) (osl : Array (Option Value)),
    fd = PySem.W.fnX "__init__" qual (defArgs st) (defBody st) (scO nm) [("__class__", cc)] .none kV doc pm an cdv ct ∧ K.lookup fI = some ⟨oc, od, .func fd, osl⟩ ∧ PySem.W.codeIn K cdv qual = true
  cod : ∃ (cda : Addr) (ccl : Value) (cdd : Option Addr) (vs : Array Value) (ccs : Array (Option Value)) (file : Str) (tf : Tok), cdv = .ref cda ∧ K.lookup cda = some ⟨ccl, cdd, .fields vs, ccs⟩ ∧ vs[2]? = some (.str file tf) ∧ ((P.main.file : Str) == file) = true
  cel : ∃ (cl : Value) (cld : Option Addr) (csl : Array (Option Value)), K.lookup cc = some ⟨cl, cld, .cell (some (.ref D)), csl⟩
  cls : ∃ cd, PySem.W.clsIn K D = some cd
  sup : mg "super" = none
  top : (P.main.scope.names.lookup ("super" : Str)).isSome = false
  par : ((defArgs st).posonlyargs ++ (defArgs st).args).map (·.arg) = ([("self" : Str), "place"] : List Str)
  scp : defScope st = scO nm ∧ True ∧ True ∧ (scO nm).names.lookup ("super" : Str) = some .globalImplicit ∧ (scO nm).names.lookup ("__class__" : Str) = some .free ∧
    (scO nm).names.lookup ("self" : Str) = some .local ∧ (scO nm).names.lookup ("place" : Str) = some .local
  nocell : ∀ y ∈ (scO nm).names, y.2 ≠ .cell
  nofree : ∀ y ∈ (scO nm).names, y.2 = .free → y.1 = "__class__"
abbrev iniEnv (qual : Str) (sc : Scope) (L f : Addr) (cdv : Value) (cc : Addr) : Env := PySem.W.envX qual sc L f cdv [("__class__", cc)]
/-- the body's context, at its entry -/
def iniCx (P : Program) (w : World) (K : PySem.W.Frag) (mg : Str → Option Value) (base : Heap) (qual : Str) (sc : Scope) (f cc : Addr) (cdv : Value) (A : Around) (outer : List Env) (s : Shared) (H : Hp) (E : XK) : Cx where
  prog := P
  w := w
  K := K
  mg := mg
  base := base
  A := A.deeper (iniEnv qual sc s.heap.objs.size f cdv cc)
  N := ["self", "place"]
  s_0 := s
  H_0 := H
  env := iniEnv qual sc s.heap.objs.size f cdv cc
  outer := outer
  stack := iniEnv qual sc s.heap.objs.size f cdv cc :: outer
  ex := []
  fn := fun _ => false
  calm := true
  pn := []
  xe := fun e s' => wpAny (model P w) (A.deeper (iniEnv qual sc s.heap.objs.size f cdv cc)) (leaving (iniEnv qual sc s.heap.objs.size f cdv cc) e) (fun _ s'' => L2.CX P w outer H s E e s'') (fun e' s'' => L2.CX P w outer H s E e' s'') s'
section
variable {P : Program} {w : World} {K : PySem.W.Frag} {mg : Str → Option Value} {base : Heap} {qual : Str} {st : Stmt} {nm : List (Str × NameKind)} {fI cc D : Addr} {cdv : Value} {fd : FuncData}
theorem ini_start {A : Around} {outer : List Env} {s : Shared} {H : Hp} {E : XK} {u0 u1 : Value} {v0 v1 : V} {h1 : Heap} {t1 : Nat} (F : InitF P K mg qual st nm fI cc D cdv fd) (hd : A.handled = none) (e0 : Env0 P w K mg base A outer s H) (r0 : RelV v0 u0) (r1 : RelV v1 u1)
    (hns : h1.Ns s.heap.objs.size fun y => ([("self", u0), ("place", u1)] : List (Str × Value)).reverse.lookup y) (kp : ∀ b o, s.heap.get? b = some o → h1.get? b = some o) :
    Inv (iniCx P w K mg base qual (scO nm) fI cc cdv A outer s H E) [] [some v0, some v1] H { s with heap := h1, toks := t1 } := by
  obtain ⟨k1, k2, k3, k4, k5, k6, k7⟩ := F.scp
  have noA : ∀ b : Addr, b ∉ (iniCx P w K mg base qual (scO nm) fI cc cdv A outer s H E).ex := fun b z => absurd (show b ∈ ([] : List Addr) from z) (by simp)
  have only : ∀ {y : Str} {c : Addr}, (iniCx P w K mg base qual (scO nm) fI cc cdv A outer s H E).env.cells.lookup y = some c → y = "__class__" ∧ c = cc := fun {y c} e => by
    have e : ([("__class__", cc)] : List (Str × Addr)).lookup y = some c := e
    have hm := PySem.mem_of_lookup e
    rw [List.mem_singleton] at hm
    exact ⟨congrArg Prod.fst hm, congrArg Prod.snd hm⟩
  obtain ⟨cl, cld, csl, hcc⟩ := F.cel
  have hcb : base.get? cc = some ⟨cl, cld, .cell (some (.ref D)), csl⟩ := e0.mod.kin _ _ hcc
  have hcs := e0.bs _ _ hcb
  refine ⟨⟨e0.mod, rfl, rfl, rfl, Nat.le_refl _, fun y z c e1 e2 => (only e1).1.trans (only e2).1.symm, fun y hy => ?_, fun y c z _ => ?_, fun _ => hd, Around.frames_deeper e0.frames, .inr ⟨rfl, rfl⟩, fun b z => absurd z (noA b), e0.bs, e0.bsz, fun b _ _ => noA b, fun b z => absurd z (noA b), e0.funs, e0.frf⟩,
    rfl, e0.bare, Un.kept kp, ⟨_, hns, fun i y v e1 e2 e3 => ?_⟩, fun y c e => ?_, e0.hok.fresh (Nat.le_refl _), fun y c e => ?_, fun q hq => absurd (show q ∈ ([] : List (Addr × Obj)) ++ [] from hq) (by simp), e0.hok.kept kp, rfl⟩
  · have hy : (scO nm).names.lookup y = some .cell ∨ (scO nm).names.lookup y = some .free := hy
    rcases hy with hy | hy
    · exact absurd rfl (F.nocell _ (PySem.mem_of_lookup hy))
    · have := F.nofree _ (PySem.mem_of_lookup hy) rfl
      subst this
      exact ⟨cc, rfl⟩
  · have z : false = true := z
    cases z
  · have hN : ([("self" : Str), "place"] : List Str)[i]? = some y := e1
    match i, hN, e2 with
    | 0, hN, e2 =>
      have hN : ("self" : Str) = y := Option.some.inj hN
      subst hN
      cases e2
      exact ⟨u0, r0, .inl ⟨k6, rfl⟩⟩
    | 1, hN, e2 =>
      have hN : ("place" : Str) = y := Option.some.inj hN
      subst hN
      cases e2
      exact ⟨u1, r1, .inl ⟨k7, rfl⟩⟩
    | n + 2, hN, e2 => simp at hN
  · obtain ⟨rfl, rfl⟩ := only e
    exact ⟨_, _, kp _ _ hcs.1, rfl⟩
  · obtain ⟨rfl, rfl⟩ := only e
    exact hcs.2

theorem sl_le {n : Nat} (h : n ≤ 1000) : n ≤ sizeLine := Nat.le_trans h (by decide)
theorem noCX {P : Program} {w : World} {outer : List Env} {H : Hp} {s : Shared} {e : Value} {s' : Shared} (h : L2.CX P w outer H s (fun _ _ _ => False) e s') : False := by
  obtain ⟨_, _, _, _, _, _, _, _, _, _, _, _, z⟩ := h
  exact z.elim
variable {A A2 : Around} {outer : List Env} {s0 s : Shared} {H0 H : Hp} {E0 : XK} {E : Value → Shared → Prop} {σ : St} {pins : List (Addr × Obj)} {a C : Addr} {p0 p1 p2 p3 p4 p5 : Pos}
abbrev iX (P : Program) (w : World) (K : PySem.W.Frag) (mg : Str → Option Value) (base : Heap) (qual : Str) (nm : List (Str × NameKind)) (fI cc : Addr) (cdv : Value) (A : Around) (outer : List Env) (s : Shared) (H : Hp) (E : XK) : Cx := iniCx P w K mg base qual (scO nm) fI cc cdv A outer s H E
/-- super(), self an exception that is being made -/
theorem ini_super {body : List Stmt} {ws : Sem Value} {x : V} {Q : Value → Shared → Prop} (F : InitF P K mg qual st nm fI cc D cdv fd) (I : Inv (iX P w K mg base qual nm fI cc cdv A outer s0 H0 E0) [] [some (.ref a), some x] H s)
    (ha : H a = some (exo a C none)) (hs : PySem.W.mroIn K C (.ref D) = some true)
    (h : ∀ so s', Inv (iX P w K mg base qual nm fI cc cdv A outer s0 H0 E0) [(so, PySem.W.ks_superObj D a C)] [some (.ref a), some x] H s' → Q (.ref so) s') :
    _root_.PySem.wpAt (model P w) A2 (.func body (iniEnv qual (scO nm) s0.heap.objs.size fI cdv cc)) (attributeBase (.Call (.Name "super" p0) [] [] p1) "__init__" (iniEnv qual (scO nm) s0.heap.objs.size fI cdv cc) ws) Q E s := by
  obtain ⟨k1, k2, k3, k4, k5, k6, k7⟩ := F.scp
  obtain ⟨oc, od, kV, doc, pm, an, ct, osl, rfl, lk, hcd⟩ := F.ex
  obtain ⟨cda, ccl, cdd, vs, ccs, file, tf, rfl, hcode, hvs, hfile⟩ := F.cod
  obtain ⟨cl, cld, csl, hcell⟩ := F.cel
  obtain ⟨cdD, hD⟩ := F.cls
  have KX : K.In s.heap := I.kIn
  obtain ⟨oD, hD1, hD2⟩ : ∃ oD, s.heap.get? D = some oD ∧ oD.data = .cls cdD := by
    revert hD
    unfold PySem.W.clsIn
    intro hD
    split at hD
    · rename_i c d cd' sl ho
      cases hD
      exact ⟨_, KX _ _ ho, rfl⟩
    · cases hD
  obtain ⟨ar, har, hself⟩ : ∃ ar : Arg, ((defArgs st).posonlyargs ++ (defArgs st).args).head? = some ar ∧ ar.arg = "self" := by
    have hp := F.par
    revert hp
    generalize (defArgs st).posonlyargs ++ (defArgs st).args = l
    intro hp
    cases l with
    | nil => cases hp
    | cons ar r => exact ⟨ar, rfl, (List.cons.inj hp).1⟩
  obtain ⟨t1, ho⟩ := exo_at I.hok ha
  obtain ⟨m, hns, hm⟩ := I.loc
  have hself2 : m "self" = some (.ref a) := by
    obtain ⟨u, r, q⟩ := hm 0 "self" (.ref a) rfl rfl (.inl k6)
    obtain rfl : u = Value.ref a := r
    rcases q with ⟨_, q⟩ | ⟨q, _⟩
    · exact q
    · have q : (scO nm).names.lookup ("self" : Str) = some .cell ∨ (scO nm).names.lookup ("self" : Str) = some .free := q
      rw [k6] at q
      rcases q with q | q <;> cases q
  obtain ⟨mb, hb1, hb2⟩ := I.mod.blt
  refine ks_wpAt_super_base (env := iniEnv qual (scO nm) s0.heap.objs.size fI (.ref cda) cc) k4 k5 rfl rfl (KX _ _ lk) rfl har rfl (KX _ _ hcode) rfl hvs hfile F.top ?_
  refine PySem.W.ks_loadName_global rfl k4 (PySem.Calls.loadGlobal_builtin (env := iniEnv qual (scO nm) s0.heap.objs.size fI (.ref cda) cc) (I.mod.glob.keeps I.bk) F.sup (hb1.keeps I.bk) ((hb2 "super" (by decide)).trans PyProof.Rows.Boot.«super») ⟨rfl, ?_⟩)
  refine wpAny_loadName_free rfl k5 rfl ⟨_, KX _ _ hcell, rfl⟩ ?_
  rw [hself]
  refine wpAny_loadName_local rfl k6 hns hself2 ?_
  obtain ⟨hh, g, d, t, os⟩ := s
  refine ks_wpAny_isType_cls hD1 hD2 ⟨rfl, ?_⟩
  refine ks_wpAny_call_super hD1 hD2 ho rfl (fun c e => by cases e) (PySem.W.looks_mroIn KX hs) fun h' e k => ?_
  exact h _ _ (ClX.pin_new I k (Nat.le_refl _) e fun v z => by cases z)

/-- super() finds ValueError's __init__ -/
structure SupV (K : PySem.W.Frag) (C D : Addr) : Prop where
  mro : PySem.W.mroIn K C (.ref D) = some true
  sup : PySem.W.ks_superIn K C D "__init__" = some (some (.builtin "ValueError.__init__"))
  sub : PySem.W.subIn K (.ref C) (.type "ValueError") = some true
  thi : PySem.W.nsIn K cStatics "thirdparty.any" = some none
  cls : OexC K C
abbrev SupEv (qual : Str) (nm : List (Str × NameKind)) (fI : Addr) (cdv : Value) (cc : Addr) (p0 p1 p2 p3 p4 : Pos) (pl : Sem Bool) : Prop := ∀ L : Addr,
  eval (.Call (.Attribute (.Call (.Name "super" p0) [] [] p1) "__init__" p2) [.Name "place" p3] [] p4) (iniEnv qual (scO nm) L fI cdv cc) = (do
    let ov ← attributeBase (.Call (.Name "super" p0) [] [] p1) "__init__" (iniEnv qual (scO nm) L fI cdv cc) (eval (.Call (.Name "super" p0) [] [] p1) (iniEnv qual (scO nm) L fI cdv cc))
    standAt p2.atName
    let (f, first) ← holding [ov] (getMethod ov "__init__" pl)
    callWith p4 f first (backTo p4 (starEach [.Name "place" p3] (iniEnv qual (scO nm) L fI cdv cc))) [])
theorem ini_callV {pl : Sem Bool} {body : List Stmt} {x : V} {Q : Flow → Shared → Prop} (hev : SupEv qual nm fI cdv cc p0 p1 p2 p3 p4 pl) (hsw : ∀ L, swapsWith (.Call (.Attribute (.Call (.Name "super" p0) [] [] p1) "__init__" p2) [.Name "place" p3] [] p4) none p5.line (iniEnv qual (scO nm) L fI cdv cc) = pure false)
    (F : InitF P K mg qual st nm fI cc D cdv fd) (SV : SupV K C D) (I : Inv (iX P w K mg base qual nm fI cc cdv A outer s0 H0 E0) [] [some (.ref a), some x] H s)
    (ha : H a = some (exo a C none)) (h : ∀ s', Inv (iX P w K mg base qual nm fI cc cdv A outer s0 H0 E0) [] [some (.ref a), some x] H s' → Q .next s') :
    _root_.PySem.wpAt (model P w) (A.deeper (iniEnv qual (scO nm) s0.heap.objs.size fI cdv cc)) (.func body (iniEnv qual (scO nm) s0.heap.objs.size fI cdv cc))
      (exec (.Expr (.Call (.Attribute (.Call (.Name "super" p0) [] [] p1) "__init__" p2) [.Name "place" p3] [] p4) p5) (iniEnv qual (scO nm) s0.heap.objs.size fI cdv cc)) Q (iX P w K mg base qual nm fI cc cdv A outer s0 H0 E0).xe s := by
  refine ks_wpAt_Expr_any (ks_wpAt_MethodCall (ini_super F I ha SV.mro fun so s1 I1 => ?_) (hev _)) rfl (hsw _)
  have KX : K.In s1.heap := I1.kIn
  have hso := ClX.pin_at I1
  obtain ⟨t1, ho⟩ := exo_at I1.hok ha
  have J : PySem.W.InstAt s1.heap a _ C none := ⟨ho, rfl, rfl, trivial⟩
  have hI : PySem.W.Looks (model P w) s1.heap (isInstance (.ref a) (.type "ValueError")) true := J.type.andThen (PySem.W.looks_subIn KX SV.sub)
  obtain ⟨nm', q, N, bs, bm, sn, sub, ab, col, dd, c0, c1, c2, c3, c5, hC, hbm⟩ := SV.cls.cls
  have hm := SV.sup
  cases hc : PySem.W.clsIn K C with
  | none =>
    unfold PySem.W.ks_superIn at hm
    rw [hc] at hm
    cases hm
  | some cd =>
    unfold PySem.W.ks_superIn at hm
    rw [hc] at hm
    have hne : a ≠ C := PySem.W.ks_ne KX J hc
    obtain ⟨hh, g, d, t, os⟩ := s1
    refine PySem.W.kxs_getMethod PySem.W.kxs_ValueError hso (PySem.W.looks_opaque KX SV.thi) (l₀ := cd.mro) (fun A Q E s k q => wpAny_bind ((PySem.W.looks_clsIn KX hc) A _ E s k (wpAny_pure q))) rfl KX hm hI hne rfl ?_
    have I2 : Inv (iX P w K mg base qual nm fI cc cdv A outer s0 H0 E0) [(hh.objs.size, PySem.W.kxs_mw "ValueError.__init__" a), (so, PySem.W.ks_superObj D a C)] [some (.ref a), some x] H ⟨hh.push (PySem.W.kxs_mw "ValueError.__init__" a), g, d, t + 1, os⟩ :=
      ClX.pin_new I1 (fun b o e => Heap.get?_push_of_some _ e) (Nat.le_refl _) (Heap.get?_push_size hh rfl) fun v z => by cases z
    have PL : PA (iX P w K mg base qual nm fI cc cdv A outer s0 H0 E0) [.Name "place" p3] (tCons (tVar 1) tNil) := pa_cons (pe_var rfl (.inl F.scp.2.2.2.2.2.2) (by decide) (by decide)) pa_nil rfl
    refine PySem.W.kxs_callWith (i := "ValueError.__init__") (x := a) rfl (PySem.Calls.evalArgs_plain (thn (PL.run p4 _ _ _ H (fun vs H1 => vs = [x] ∧ H1 = H) I2 ⟨x, rfl, rfl, rfl⟩) fun us s2 ⟨vs, H1, I3, rv, ev, eH⟩ => ?_))
    subst ev eH
    have hu := ClX.pin_at I3
    refine ⟨hu, ?_⟩
    obtain ⟨t2, ho2⟩ := exo_at I3.hok ha
    obtain ⟨h3, g3, d3, t3, os3⟩ := s2
    refine wpAny_call (codeAny_of_tree (show wpAny _ (Around.in1 _) (callAny (.ref hh.objs.size) ⟨us, []⟩) _ _ _ from ?_))
    unfold callAny
    refine wpAny_bind (wpAny_load hu ?_)
    refine PySem.W.KFB.if_so (show (Value.type "method-wrapper" == Value.type "method" || Value.type "method-wrapper" == Value.type "builtin_function_or_method" || (Value.type "method-wrapper" == Value.type "method-wrapper")) = true by decide) (wpAny_bind (PySem.W.check_bound_init PySem.F.excBase_ValueError.toExcCallFacts (I3.kIn _ _ hC) ho2 rfl (wpAny_bind (wpAny_pure (wpAny_pure ?_)))))
    refine ⟨plainId_quiet PySem.F.excBase_ValueError.init.plain _, codeAny_builtin PySem.F.excBase_ValueError.initEntry ?_⟩
    have hl : us.length ≤ sizeLine := by
      rw [← rv.length]
      exact sl_le (by simp)
    refine PySem.W.exc_init_tree (cls := .ref C) (t0 := t2) (dv := none) (c2 := .none) (c3 := .none) (b4 := .bool false) ho2 hl fun h' k hx _ => ?_
    have J3 := I3.write (t' := t3) (x := a) (e := a) (o := exo a C none) (by rw [ha]; exact True.intro) (.inl rfl) k ⟨_, hx⟩ (exo_ok hx)
    have eu : upd H1 a (exo a C none) = H1 := by
      funext b
      by_cases hb : b = a
      · rw [hb, upd_same, ha]
      · rw [upd_ne hb]
    rw [eu] at J3
    exact h _ (ClX.unpin (ClX.unpin J3))

/-- super() finds an own def -/
structure SupF (K : PySem.W.Frag) (C D fB : Addr) : Prop where
  mro : PySem.W.mroIn K C (.ref D) = some true
  sup : PySem.W.ks_superIn K C D "__init__" = some (some (.ref fB))
  typ : PySem.W.typeIn K (.ref fB) = some (.type "function")
  fi : PySem.W.fnIn K fB = true
  thi : PySem.W.nsIn K cStatics "thirdparty.any" = some none
theorem ini_callF {k : Nat} {fB : Addr} {sp : Sp} {G : Hp → Prop} {pl : Sem Bool} {body : List Stmt} {x : V} {Q : Flow → Shared → Prop} (hev : SupEv qual nm fI cdv cc p0 p1 p2 p3 p4 pl)
    (hsw : ∀ L, swapsWith (.Call (.Attribute (.Call (.Name "super" p0) [] [] p1) "__init__" p2) [.Name "place" p3] [] p4) none p5.line (iniEnv qual (scO nm) L fI cdv cc) = pure false)
    (F : InitF P K mg qual st nm fI cc D cdv fd) (SF : SupF K C D fB) (FR : FnR P w K mg base (L2.CX P w) k fB sp) (hr : Room k (A.deeper (iniEnv qual (scO nm) s0.heap.objs.size fI cdv cc)))
    (I : Inv (iX P w K mg base qual nm fI cc cdv A outer s0 H0 E0) [] [some (.ref a), some x] H s) (ha : H a = some (exo a C none)) (hsp : sp [.ref a, x] H (fun _ H1 => G H1) (fun _ _ _ => False))
    (h : ∀ s' H1, Inv (iX P w K mg base qual nm fI cc cdv A outer s0 H0 E0) [] [some (.ref a), some x] H1 s' → G H1 → Q .next s') :
    _root_.PySem.wpAt (model P w) (A.deeper (iniEnv qual (scO nm) s0.heap.objs.size fI cdv cc)) (.func body (iniEnv qual (scO nm) s0.heap.objs.size fI cdv cc))
      (exec (.Expr (.Call (.Attribute (.Call (.Name "super" p0) [] [] p1) "__init__" p2) [.Name "place" p3] [] p4) p5) (iniEnv qual (scO nm) s0.heap.objs.size fI cdv cc)) Q (iX P w K mg base qual nm fI cc cdv A outer s0 H0 E0).xe s := by
  refine ks_wpAt_Expr_any (ks_wpAt_MethodCall (ini_super F I ha SF.mro fun so s1 I1 => ?_) (hev _)) rfl (hsw _)
  have KX : K.In s1.heap := I1.kIn
  have hso := ClX.pin_at I1
  obtain ⟨t1, ho⟩ := exo_at I1.hok ha
  have J : PySem.W.InstAt s1.heap a _ C none := ⟨ho, rfl, rfl, trivial⟩
  obtain ⟨fo, hfo, hfc⟩ : ∃ fo, s1.heap.get? fB = some fo ∧ fo.cls = .type "function" := by
    have ht : (K.lookup fB).map (·.cls) = some (.type "function") := SF.typ
    cases z : K.lookup fB with
    | none => rw [z] at ht; cases ht
    | some fo => rw [z] at ht; exact ⟨fo, KX _ _ z, Option.some.inj ht⟩
  have hm := SF.sup
  cases hc : PySem.W.clsIn K C with
  | none =>
    unfold PySem.W.ks_superIn at hm
    rw [hc] at hm
    cases hm
  | some cd =>
    unfold PySem.W.ks_superIn at hm
    rw [hc] at hm
    have hne : a ≠ C := PySem.W.ks_ne KX J hc
    obtain ⟨hh, g, d, t, os⟩ := s1
    refine ks_wpAny_getMethod_super hso (PySem.W.looks_opaque KX SF.thi) (l₀ := cd.mro) (fun A Q E s k q => wpAny_bind ((PySem.W.looks_clsIn KX hc) A _ E s k (wpAny_pure q))) rfl KX hm hfo hfc hne rfl ?_
    have hq0 : (iX P w K mg base qual nm fI cc cdv A outer s0 H0 E0).base.get? hh.objs.size = none := ClX.base_none I1 (Nat.le_refl _)
    have I2 : Inv (iX P w K mg base qual nm fI cc cdv A outer s0 H0 E0) [(hh.objs.size, PySem.W.methodObj (.ref fB) (.ref a)), (so, PySem.W.ks_superObj D a C)] [some (.ref a), some x] H ⟨hh.push (PySem.W.methodObj (.ref fB) (.ref a)), g, d, t + 1, os⟩ :=
      ClX.pin_new I1 (fun b o e => Heap.get?_push_of_some _ e) (Nat.le_refl _) (Heap.get?_push_size hh rfl) fun v z => by cases z
    have PL : PA (iX P w K mg base qual nm fI cc cdv A outer s0 H0 E0) [.Name "place" p3] (tCons (tVar 1) tNil) := pa_cons (pe_var rfl (.inl F.scp.2.2.2.2.2.2) (by decide) (by decide)) pa_nil rfl
    refine ClX.callwith_cm (C := a) (g := fB) I2 hq0 SF.fi (thn (PL.run p4 _ _ _ H (fun vs H1 => vs = [x] ∧ H1 = H) I2 ⟨x, rfl, rfl, rfl⟩) fun us s2 ⟨vs, H1, I3, rv, ev, eH⟩ => ?_) rfl rfl
    subst ev eH
    refine ⟨⟨ClX.pin_at I3, I3.kIn⟩, ?_⟩
    refine thn (ClX.run_cm (C := a) (g := fB) FR hr (E := fun _ _ _ => False) (fun pins σ H s e s' I c => (noCX c).elim) I3 rv hsp) fun u s3 ⟨v, H3, I4, _, q⟩ => ?_
    exact h _ _ (ClX.unpin I4) q
end
end Fx

namespace Fx
open PySem PySem.Spec PyProof.Rows L2

/-! ### what such an __init__ promises -/
/-- the base's: place, then name -/
def spIB (K : PySem.W.Frag) (D : Addr) (n0 : Str) : Sp := fun vs H Q _ => ∃ a C x, vs = [.ref a, x] ∧ SupV K C D ∧ PySem.W.findIn K (.ref C) "place" = some none ∧ PySem.W.findIn K (.ref C) "name" = some none ∧ H a = some (exo a C none) ∧
  ∀ dx, H dx = none → dx ≠ a → Q .non (upd (upd (upd H dx (exd dx [("place", x)])) a (exo a C (some dx))) dx (exd dx [("name", .str n0), ("place", x)]))
/-- a derived one's: the base's, then name -/
def spID (K : PySem.W.Frag) (D DB fB : Addr) (n0 n1 : Str) : Sp := fun vs H Q _ => ∃ a C x, vs = [.ref a, x] ∧ SupF K C D fB ∧ SupV K C DB ∧ PySem.W.findIn K (.ref C) "place" = some none ∧ PySem.W.findIn K (.ref C) "name" = some none ∧ H a = some (exo a C none) ∧
  ∀ dx, H dx = none → dx ≠ a → Q .non (upd (upd (upd (upd H dx (exd dx [("place", x)])) a (exo a C (some dx))) dx (exd dx [("name", .str n0), ("place", x)])) dx (exd dx [("name", .str n1), ("name", .str n0), ("place", x)]))
section
variable {P : Program} {w : World} {K : PySem.W.Frag} {mg : Str → Option Value} {base : Heap} {qual : Str} {st : Stmt} {nm : List (Str × NameKind)} {fI cc D : Addr} {cdv : Value} {fd : FuncData} {p0 p1 p2 p3 p4 p5 : Pos} {pl : Sem Bool} {rest : List Stmt}
/-- entering such a def -/
theorem ini_run {A : Around} {outer : List Env} {s : Shared} {H : Hp} {args : Args} {us : List Value} {a : Addr} {x : V} {Q : VK} {E : XK} {k : Nat} {s0 : Stmt} (F : InitF P K mg qual st nm fI cc D cdv fd)
    (hbd : defBody st = s0 :: rest) (hr : Room (k + 1) A) (e0 : Env0 P w K mg base A outer s H) (hb : BindsTo s fd args (([("self" : Str), "place"] : List Str).zip us)) (r : Vals [.ref a, x] us)
    (h : ∀ (body : List Stmt) (s1 : Shared), Inv (iX P w K mg base qual nm fI cc cdv A outer s H E) [] [some (.ref a), some x] H s1 →
      _root_.PySem.wpAt (model P w) (A.deeper (iniEnv qual (scO nm) s.heap.objs.size fI cdv cc)) (.func body (iniEnv qual (scO nm) s.heap.objs.size fI cdv cc)) (exec s0 (iniEnv qual (scO nm) s.heap.objs.size fI cdv cc))
        (fun fl s2 => fl = .next ∧ ∃ H2 t, Inv (iX P w K mg base qual nm fI cc cdv A outer s H E) [] [some (.ref a), some x] H2 s2 ∧ PSs (iX P w K mg base qual nm fI cc cdv A outer s H E) rest t ∧ t { nx := fun _ H' => Q .non H', rt := Q } [some (.ref a), some x] H2)
        (iX P w K mg base qual nm fI cc cdv A outer s H E).xe s1) :
    codeAny (model P w) A (.call (.ref fI) args) (CR (L2.CX P w) outer P w H s Q E) s := by
  obtain ⟨oc, od, kV, doc, pm, an, ct, osl, e1, lk, hcd⟩ := F.ex
  have KX : K.In s.heap := e0.mod.kin.keeps fun b o e => (e0.bs b o e).1
  have lim : s.heap.NoLimit := e0.mod.nolimit.keeps fun b o e => (e0.bs b o e).1
  obtain ⟨u1, rfl, r1⟩ : ∃ u1, us = [.ref a, u1] ∧ RelV x u1 := by
    cases r with
    | @cons _ u _ ur ra rw' =>
      obtain rfl : u = Value.ref a := ra
      cases rw' with
      | @cons _ u1 _ ur2 rb rn =>
        cases rn
        exact ⟨u1, rfl, rb⟩
  subst e1
  refine ks_codeAny_call_defAt hr.depth (KX _ _ lk) rfl lim (PySem.W.codeRec_of KX hcd) rfl hb F.nocell (fun y hy => ?_) (fun h1 hns kp => ?_) rfl rfl rfl
  · have hy : y ∈ ([(("self" : Str), Value.ref a), ("place", u1)] : List (Str × Value)) := hy
    simp only [List.mem_cons, List.not_mem_nil, or_false] at hy
    rcases hy with rfl | rfl
    · exact F.scp.2.2.2.2.2.1
    · exact F.scp.2.2.2.2.2.2
  · have I := ini_start (E := E) F hr.hd e0 (v0 := .ref a) (v1 := x) rfl r1 hns kp (t1 := s.toks + (([("self" : Str), "place"] : List Str).zip [Value.ref a, u1]).length)
    rw [hbd]
    refine ks_wpAt_execs_cons (ks_wpAt_mono (h (s0 :: rest) _ I) (fun fl s2 q => ?_) fun _ _ z => z)
    obtain ⟨rfl, H2, t, J, hP, ht⟩ := q
    refine wpAt_of_wpAny (wpAny_mono (hP.run [] s2 _ H2 _ J ht) (fun fl s3 hs => ?_) fun e s3 z => z)
    have fin : ∀ {σ' : St} {H' : Hp} {v : V} {u : Value}, Inv (iX P w K mg base qual nm fI cc cdv A outer s H E) [] σ' H' s3 → RelV v u → Q v H' → CE outer P w H s Q u s3 :=
      fun {σ' H' v u} J rv q => ⟨v, H', J.os, J.bare, J.base, J.hok, rv, q⟩
    cases fl with
    | ret u =>
      obtain ⟨v, σ', H', J, rv, q⟩ := hs
      exact fin J rv q
    | next =>
      obtain ⟨σ', H', J, q⟩ := hs
      exact fin (v := V.non) (u := Value.none) J rfl q
    | brk =>
      obtain ⟨_, _, _, q⟩ := hs
      exact False.elim q
    | cont =>
      obtain ⟨_, _, _, q⟩ := hs
      exact False.elim q
abbrev supSt (p0 p1 p2 p3 p4 p5 : Pos) : Stmt := .Expr (.Call (.Attribute (.Call (.Name "super" p0) [] [] p1) "__init__" p2) [.Name "place" p3] [] p4) p5
abbrev SupSw (qual : Str) (nm : List (Str × NameKind)) (fI : Addr) (cdv : Value) (cc : Addr) (p0 p1 p2 p3 p4 p5 : Pos) : Prop :=
  ∀ L, swapsWith (.Call (.Attribute (.Call (.Name "super" p0) [] [] p1) "__init__" p2) [.Name "place" p3] [] p4) none p5.line (iniEnv qual (scO nm) L fI cdv cc) = pure false
theorem ini_okB {n0 : Str} {k : Nat} (F : InitF P K mg qual st nm fI cc D cdv fd) (hbd : defBody st = supSt p0 p1 p2 p3 p4 p5 :: rest) (hev : SupEv qual nm fI cdv cc p0 p1 p2 p3 p4 pl) (hsw : SupSw qual nm fI cdv cc p0 p1 p2 p3 p4 p5)
    (hrest : ∀ A outer s H E, PSs (iX P w K mg base qual nm fI cc cdv A outer s H E) rest (tSeq (tOst K "place" (tVar 0) (tVar 1)) (tSeq (tOst K "name" (tVar 0) (tC (.str n0))) tNext))) :
    FnOk P w K mg base (L2.CX P w) (k + 1) fI fd ["self", "place"] (spIB K D n0) := by
  refine ⟨fun vs H Q E ⟨a, C, x, e, _⟩ => by rw [e]; rfl, fun A outer s H args us vs Q E hr e0 hb r hsp => ?_⟩
  obtain ⟨a, C, x, rfl, SV, hp, hn, ha, hq⟩ := hsp
  refine ini_run (x := x) F hbd hr e0 hb r fun body s1 I => ini_callV hev hsw F SV I ha fun s2 J => ⟨rfl, H, _, J, hrest _ _ _ _ _, ?_⟩
  refine ⟨x, rfl, .ref a, rfl, a, C, rfl, SV.cls, hp, .inl ⟨ha, fun dx nd ne => ?_⟩⟩
  refine ⟨.ref a, rfl, a, C, rfl, SV.cls, hn, .inr ⟨dx, [("place", x)], upd_same, by rw [upd_ne ne, upd_same], by simp, hq dx nd ne⟩⟩
theorem ini_okD {n0 n1 : Str} {fB DB : Addr} {fdB : FuncData} {k : Nat} (F : InitF P K mg qual st nm fI cc D cdv fd) (hbd : defBody st = supSt p0 p1 p2 p3 p4 p5 :: rest) (hev : SupEv qual nm fI cdv cc p0 p1 p2 p3 p4 pl) (hsw : SupSw qual nm fI cdv cc p0 p1 p2 p3 p4 p5)
    (FB : FnOk P w K mg base (L2.CX P w) k fB fdB ["self", "place"] (spIB K DB n0)) (hbB : Binds K fdB ["self", "place"] [])
    (hrest : ∀ A outer s H E, PSs (iX P w K mg base qual nm fI cc cdv A outer s H E) rest (tSeq (tOst K "name" (tVar 0) (tC (.str n1))) tNext)) :
    FnOk P w K mg base (L2.CX P w) (k + 1) fI fd ["self", "place"] (spID K D DB fB n0 n1) := by
  refine ⟨fun vs H Q E ⟨a, C, x, e, _⟩ => by rw [e]; rfl, fun A outer s H args us vs Q E hr e0 hb r hsp => ?_⟩
  obtain ⟨a, C, x, rfl, SF, SV, hp, hn, ha, hq⟩ := hsp
  refine ini_run (x := x) F hbd hr e0 hb r fun body s1 I => ini_callF (G := fun H1 => ∃ dx, H dx = none ∧ dx ≠ a ∧ H1 = upd (upd (upd H dx (exd dx [("place", x)])) a (exo a C (some dx))) dx (exd dx [("name", .str n0), ("place", x)])) hev hsw F SF (FB.raw hbB .nil) (hr.deeper _) I ha
    ⟨a, C, x, rfl, SV, hp, hn, ha, fun dx nd ne => ⟨dx, nd, ne, rfl⟩⟩ fun s2 H1 J ⟨dx, nd, ne, e⟩ => ⟨rfl, H1, _, J, hrest _ _ _ _ _, ?_⟩
  subst e
  refine ⟨.ref a, rfl, a, C, rfl, SV.cls, hn, .inr ⟨dx, _, by rw [upd_ne (Ne.symm ne), upd_same], upd_same, by simp, hq dx nd ne⟩⟩
end
end Fx

namespace Fx
open PySem PySem.Spec PyProof.Rows L2

/-! ### raise C(e), C an own exception -/
/-- the fields of such an exception: its names, the last one first, then the place -/
def exFs (ns : List (List Nat)) (d : D) : List (String × D) := ns.map (fun n => ("name", D.str n)) ++ [("place", d)]
theorem str_back (n : Str) : (⟨n.cps.toList.toArray⟩ : Str) = n := by cases n; simp
def exFv (ns : List (List Nat)) (x : V) : List (Str × V) := ns.map (fun n => (("name" : Str), V.str ⟨n.toArray⟩)) ++ ([(("place" : Str), x)] : List (Str × V))
/-- the class x: how it is made -/
def ExcCls (P : Program) (w : World) (K : PySem.W.Frag) (mg : Str → Option Value) (base : Heap) (k : Nat) (x : String) (ns : List (List Nat)) : Prop :=
  ∃ C fI fd sp, mg (Str.ofString x) = some (.ref C) ∧ OexC K C ∧ PySem.W.findIn K (.ref C) "__init__" = some (some (.ref fI)) ∧ PySem.W.typeIn K (.ref fI) = some (.type "function") ∧
    FnOk P w K mg base (L2.CX P w) k fI fd ["self", "place"] sp ∧ Binds K fd ["self", "place"] [] ∧
    ∀ a v H1 Q, H1 a = none → (∀ d H2, H1 d = none → d ≠ a → H2 a = some (exo a C (some d)) → H2 d = some (exd d (exFv ns v)) → (∀ b, b ≠ a → b ≠ d → H2 b = H1 b) → Q .non H2) → sp [.ref a, v] (upd H1 a (exo a C none)) Q (fun _ _ _ => False)
section
variable {P : Program} {w : World} {K : PySem.W.Frag} {mg : Str → Option Value} {base : Heap}
theorem ExcCls.ofB {k : Nat} {x : String} {C fI : Addr} {fd : FuncData} {n0 : Str} (hm : mg (Str.ofString x) = some (.ref C)) (iC : PySem.W.findIn K (.ref C) "__init__" = some (some (.ref fI))) (tI : PySem.W.typeIn K (.ref fI) = some (.type "function"))
    (F : FnOk P w K mg base (L2.CX P w) k fI fd ["self", "place"] (spIB K C n0)) (hb : Binds K fd ["self", "place"] []) (SV : SupV K C C) (hp : PySem.W.findIn K (.ref C) "place" = some none) (hn : PySem.W.findIn K (.ref C) "name" = some none) :
    ExcCls P w K mg base k x [n0.cps.toList] := by
  refine ⟨C, fI, fd, _, hm, SV.cls, iC, tI, F, hb, fun a v H1 Q h0 hq => ⟨a, C, v, rfl, SV, hp, hn, upd_same, fun dx nd ne => ?_⟩⟩
  rw [upd_ne ne] at nd
  refine hq dx _ nd ne (by rw [upd_ne (Ne.symm ne), upd_same]) (by unfold exFv; simp only [List.map_cons, List.map_nil, List.cons_append, List.nil_append, str_back]; exact upd_same) fun b b1 b2 => ?_
  rw [upd_ne b2, upd_ne b1, upd_ne b2, upd_ne b1]
theorem ExcCls.der {k : Nat} {x : String} {C DB fB fI : Addr} {fd : FuncData} {n0 n1 : Str} (hm : mg (Str.ofString x) = some (.ref C)) (iC : PySem.W.findIn K (.ref C) "__init__" = some (some (.ref fI))) (tI : PySem.W.typeIn K (.ref fI) = some (.type "function"))
    (F : FnOk P w K mg base (L2.CX P w) k fI fd ["self", "place"] (spID K C DB fB n0 n1)) (hb : Binds K fd ["self", "place"] []) (SF : SupF K C C fB) (SV : SupV K C DB) (hp : PySem.W.findIn K (.ref C) "place" = some none) (hn : PySem.W.findIn K (.ref C) "name" = some none) :
    ExcCls P w K mg base k x [n1.cps.toList, n0.cps.toList] := by
  refine ⟨C, fI, fd, _, hm, SV.cls, iC, tI, F, hb, fun a v H1 Q h0 hq => ⟨a, C, v, rfl, SF, SV, hp, hn, upd_same, fun dx nd ne => ?_⟩⟩
  rw [upd_ne ne] at nd
  refine hq dx _ nd ne (by rw [upd_ne (Ne.symm ne), upd_ne (Ne.symm ne), upd_same]) (by unfold exFv; simp only [List.map_cons, List.map_nil, List.cons_append, List.nil_append, str_back]; exact upd_same) fun b b1 b2 => ?_
  rw [upd_ne b2, upd_ne b2, upd_ne b1, upd_ne b2, upd_ne b1]
end
def mRaise (x : String) (ns : List (List Nat)) (m : ME) : MS := fun sd S => (m sd S).thenS sd fun d S1 => .exc ⟨x, exFs ns d⟩ sd S1
section
variable {X : Cx} {W : WX} {P : Program} {w : World}
theorem exFs_rep {μ : Mu} {H : Hp} {ns : List (List Nat)} {d : D} {v : V} (r : RepV X.K μ H d v) : (exFv ns v).map (·.1) = (exFs ns d).map (fun p => Str.ofString p.1) ∧ RepL X.K μ H ((exFs ns d).map (·.2)) ((exFv ns v).map (·.2)) := by
  induction ns with
  | nil => exact ⟨rfl, .cons r .nil⟩
  | cons n ns ih => exact ⟨congrArg _ ih.1, .cons (.str n) ih.2⟩
theorem ss_raise {k : Nat} {x : String} {ns : List (List Nat)} {e : Expr} {m : ME} {p pos pos' : Pos} (hc : X.calm = true) (tk : Takes X W) (T : ExcCls X.prog X.w X.K X.mg X.base k x ns) (hr : Room (k + 1) X.A) (he : SE X W e m) (hg : Gl X (Str.ofString x))
    (hdb : ((Str.ofString x) == ("__debug__" : Str)) = false) (hst : starEach [e] X.env = (false, eval e X.env) :: starEach [] X.env := by rfl) (hpl : (backTo pos (starEach [] X.env)).any (·.1) = false := by rfl) :
    SS X W (.Raise (some (.Call (.Name (Str.ofString x) p) [e] [] pos)) none pos') (mRaise x ns m) := by
  obtain ⟨C, fI, fd, sp, hm, OC, iC, tI, F, hb, hsp⟩ := T
  refine (ps_raise hc tk (pmk_oex (dvs := []) OC iC tI F hr hb .nil (fun pins σ H s e s' I c => (noCX c).elim) hg hm (pa_cons he pa_nil hst) hdb hst hpl)).impF fun D' σ H ⟨μ, S, sd, hs, hl, h⟩ => ?_
  refine tE_then hs hl h fun d S1 μ1 v H1 s1 l1 u1 r1 q => ?_
  refine ⟨by simp, fun a ha => ?_⟩
  refine hsp a v H1 _ ha fun dx H2 nd ne e1 e2 e3 => ⟨rfl, dx, exFv ns v, e1, e2, nd, ?_⟩
  have eq : upd (del H2 a) dx (.xd (exFv ns v)) = upd H1 dx (.xd (exFv ns v)) := by
    funext b
    by_cases hb : b = dx
    · rw [hb, upd_same, upd_same]
    · rw [upd_ne hb, upd_ne hb]
      by_cases hba : b = a
      · rw [hba, del_same, ha]
      · rw [del_ne hba, e3 b hba hb]
  rw [eq]
  have u2 : Up μ1 H1 μ1 (upd H1 dx (.xd (exFv ns v))) := up_tmp nd
  exact q _ _ σ _ μ1 u2 (s1.tmp nd) (l1.up u2) ⟨C, dx, _, rfl, rfl, hm, upd_same, (exFs_rep (X := X) (r1.up u2)).1, (exFs_rep (X := X) (r1.up u2)).2⟩
end
end Fx

namespace Fx
open PySem PySem.Spec PyProof.Rows L2

/-! ### try with several clauses, each with a name or without one -/
abbrev Clause := Value × Option Nat × (Addr → Value → Option Addr → TS)
/-- the ends of a suite whose clause has a name: it goes -/
def dropE (i : Nat) (D : Ends) : Ends := { nx := fun σ H => D.nx (σ.set i none) H, rt := D.rt, bk := fun σ H => D.bk (σ.set i none) H, ct := fun σ H => D.ct (σ.set i none) H }
def wMix (K : PySem.W.Frag) (Wo : WX) (D : Ends) : List Clause → WX
  | [] => Wo
  | (c, oi, ts) :: r => fun cls d σ H => ∃ b, PySem.W.exmOne K cls c = some b ∧
    (b = true → ∀ a, H a = none → match oi with | none => ts a cls d D σ H | some i => ts a cls d (dropE i D) (σ.set i (some (.ref a))) H) ∧ (b = false → wMix K Wo D r cls d σ H)
inductive ClausesOk (X : Cx) : List ExceptHandler → List Clause → Prop
  | nil : ClausesOk X [] []
  | only {x : Str} {c : Value} {ts : Addr → Value → Option Addr → TS} {st : Stmt} {su : List Stmt} {p p' : Pos} {hl : List ExceptHandler} {l : List Clause} (hc : Names X x c)
      (hsu : ∀ a oe cls d pn, Zc cls d oe → (∃ vs, oe.data = .fields vs) → PSs (X.suite a ((a, oe) :: pn)) (st :: su) (ts a cls d)) (r : ClausesOk X hl l) : ClausesOk X (.ExceptHandler (some (.Name x p)) none (st :: su) p' :: hl) ((c, none, ts) :: l)
  | named {x n : Str} {i : Nat} {c : Value} {ts : Addr → Value → Option Addr → TS} {st : Stmt} {su : List Stmt} {p p' : Pos} {hl : List ExceptHandler} {l : List Clause} (hc : Names X x c) (hi : X.N[i]? = some n) (hk : X.env.kindOf n = some .local)
      (hsu : ∀ a oe cls d pn, Zc cls d oe → (∃ vs, oe.data = .fields vs) → PSs (X.suite a ((a, oe) :: pn)) (st :: su) (ts a cls d)) (r : ClausesOk X hl l) : ClausesOk X (.ExceptHandler (some (.Name x p)) (some n) (st :: su) p' :: hl) ((c, some i, ts) :: l)
section
variable {X : Cx} {body : List Stmt} {hd : ExceptHandler} {hl : List ExceptHandler} {l : List Clause} {pos : Pos} {tb : WX → TS} {Wo : WX}
theorem ps_try_mix (hS : X.stack = X.env :: X.outer) (hF : X.env.frame = some X.env.locals) (hN : X.N.Nodup) (tk : Takes X Wo)
    (hb : ∀ (W : WX) (pn : List (Addr × Obj)) (xe : Value → Shared → Prop), Takes (X.tr pn xe) W → PassesOwn (model X.prog X.w) X.A X.env xe → PSs (X.tr pn xe) body (tb W))
    (hh : ClausesOk X (hd :: hl) l) : PS X (.Try body (hd :: hl) [] [] pos) (fun D σ H => tb (wMix X.K Wo D l) D σ H) := by
  constructor
  intro pins s σ H D I h
  have okX := I.ok
  have frX : X.A.frames = some (X.env :: X.outer) := okX.frames.trans (congrArg some hS)
  refine wpAny_Try_except (wpAny_mono ((hb (wMix X.K Wo D l) (X.pn ++ pins) (fun e sa => wpAny (model X.prog X.w) X.A (noteFrame e X.env) (fun _ sb => wpAny (model X.prog X.w) X.A (setFlight e none) (fun _ sc =>
    wpAny (model X.prog X.w) X.A (handleBy e X.env (hd :: hl)) (SP X pins D) X.xe sc) X.xe sb) X.xe sa) (fun u s' xx => ?_) PassesOwn.looking).run [] s σ H D (I.toTry _) h) (fun f s1 hsp => ?_) (fun e s1 he => he))
  · obtain ⟨a, B, sI, pinsI, σI, HI, cls, d, rfl, JT, nb, up, sky, na, os, ag, wish⟩ := xx
    have JI : Inv X pins σI HI sI := JT.ofTry okX
    have skyX : Sky B (X.env :: X.outer) a (Zc cls d) X.env.locals s'.heap := hS ▸ sky
    show wpAny (model X.prog X.w) X.A (noteFrame (.ref a) X.env) _ _ _
    refine Sky.land Zc.steady frX hF skyX fun hA flA upA => ?_
    have JA : Inv X pins σI HI { s' with heap := hA } := JI.landed nb flA.1 (up.trans upA) os ag
    obtain ⟨oeA, vsA, heA, hzA, hdA⟩ := flA.there
    have offFr : a ∉ frs (X.env :: X.outer) := fun hm => by
      obtain ⟨_, o2, e2, nf⟩ := flA.2.2.1.mem hm
      rw [heA] at e2
      cases e2
      exact nf _ hdA
    have offL : a ≠ X.env.locals := fun z => offFr (List.mem_filterMap.mpr ⟨X.env, List.mem_cons_self, hF.trans (congrArg some z.symm)⟩)
    have offF : a ∉ X.fs := fun hm => by
      obtain ⟨e2, m2, q2⟩ := List.mem_filterMap.mp hm
      exact offFr (List.mem_filterMap.mpr ⟨e2, List.mem_cons_of_mem _ m2, q2⟩)
    have SA := JA.suite heA hdA na offL offF
    have LT : PySem.W.Looks (model X.prog X.w) hA (typeOf (.ref a)) cls := fun A Q E s k q => wpAny_typeOf_ref (k _ _ heA) (by rw [hzA.1]; exact q)
    have tst : ∀ {x : Str} {c : Value} {p : Pos} {Q : Value → Shared → Prop} {E : Value → Shared → Prop}, Names X x c → Q c { s' with heap := hA } → wpAny (model X.prog X.w) (X.A.mark (some (.ref a))) (eval (.Name x p) X.env) Q E { s' with heap := hA } := fun {x c p Q E} hc q => by
      obtain ⟨hg, hdbg, hm | ⟨hm, hv, hnn⟩⟩ := hc
      · exact ld_glob (X := X.suite a ((a, oeA) :: (X.pn ++ pins))) SA hg hm q hdbg
      · exact ld_blt (X := X.suite a ((a, oeA) :: (X.pn ++ pins))) SA hg hm hv q hnn hdbg
    have go : ∀ {hl' : List ExceptHandler} {l' : List Clause}, ClausesOk X hl' l' → wMix X.K Wo D l' cls d σI HI → wpAny (model X.prog X.w) X.A (handleBy (.ref a) X.env hl') (SP X pins D) X.xe { s' with heap := hA } := by
      intro hl' l' hk
      induction hk with
      | nil =>
        intro wi
        refine wpAny_handleBy_nil ?_
        obtain ⟨k1, k2, k3, oe, vs, T, oT, ts', he, hz, hd', h1, hr⟩ := id flA
        unfold PySem.passOn
        refine wpAny_bind (wpAny_field he hd' h1 ?_)
        rw [if_neg (show ¬ ((Value.ref T == Value.none) = true) from by simp)]
        have fin : wpAny (model X.prog X.w) X.A (setFlight (.ref a) X.env.frame) (fun _ sd => wpAny (model X.prog X.w) X.A (throw (.ref a) : Sem Flow) (SP X pins D) X.xe sd) X.xe { s' with heap := hA } := by
          rw [hF]
          exact HandSPX.setFlight_upZ flA fun hC hhC upC => wpAny_throw (tk _ _ ⟨a, B, sI, pins, σI, HI, cls, d, rfl, JI, nb, (up.trans upA).trans upC, .inr (.inr (by rw [hS]; exact hhC)), na, os, ag, wi⟩)
        first
          | exact wpAny_bind (wpAny_pure (wpAny_bind fin))
          | exact wpAny_bind fin
      | @only x c ts st su p p' hl2 l2 hc hsu r ih =>
        intro wi
        obtain ⟨b, eb, yes, no⟩ := wi
        refine wpAny_handleBy_cons (codeAny_handlers_test (tst hc ((PySem.W.exm_one (M := model X.prog X.w) JA.kIn LT eb).here ?_))) (by intro q; cases q)
        cases b with
        | true =>
          refine codeAny_handlers_suite (HandSPX.lands_againZ flA fun hC flC upC => ?_)
          have JC : Inv X pins σI HI { s' with heap := hC } := JI.landed nb flC.1 ((up.trans upA).trans upC) os ag
          obtain ⟨oeC, vsC, heC, hzC, hdC⟩ := flC.there
          have SC := JC.suite heC hdC na offL offF
          refine wpAny_mono ((hsu a oeC cls d (X.pn ++ pins) hzC ⟨_, hdC⟩).run [] _ _ HI _ SC (yes rfl a na)) (fun f sf q => ?_) (fun _ _ z => z.elim)
          cases f with
          | ret u => exact let ⟨v, σf, Hf, Sf, rf, qf⟩ := q; ⟨v, σf, Hf, Sf.unsuite okX, rf, qf⟩
          | next => exact let ⟨σf, Hf, Sf, qf⟩ := q; ⟨σf, Hf, Sf.unsuite okX, qf⟩
          | brk => exact let ⟨σf, Hf, Sf, qf⟩ := q; ⟨σf, Hf, Sf.unsuite okX, qf⟩
          | cont => exact let ⟨σf, Hf, Sf, qf⟩ := q; ⟨σf, Hf, Sf.unsuite okX, qf⟩
        | false =>
          show wpAny _ X.A (handleBy (.ref a) X.env hl2) _ _ _
          exact ih (no rfl)
      | @named x n i c ts st su p p' hl2 l2 hc hi hk hsu r ih =>
        intro wi
        obtain ⟨b, eb, yes, no⟩ := wi
        refine wpAny_handleBy_cons (codeAny_handlers_test (tst hc ((PySem.W.exm_one (M := model X.prog X.w) JA.kIn LT eb).here ?_))) (by intro q; cases q)
        cases b with
        | true =>
          refine codeAny_handlers_suite_as (HandSPX.lands_againZ flA fun hC flC upC => ?_)
          have JC : Inv X pins σI HI { s' with heap := hC } := JI.landed nb flC.1 ((up.trans upA).trans upC) os ag
          obtain ⟨oeC, vsC, heC, hzC, hdC⟩ := flC.there
          have SC := JC.suite heC hdC na offL offF
          refine store_ok (X := X.suite a ((a, oeC) :: (X.pn ++ pins))) (v := .ref a) SC hN hi (.inl hk) rfl (fun sg SG => ?_) (.inr hk)
          refine wpAny_mono ((hsu a oeC cls d (X.pn ++ pins) hzC ⟨_, hdC⟩).run [] sg _ HI _ SG (yes rfl a na)) (fun f sf q => ?_) (fun _ _ z => z.elim)
          have bye : ∀ {σf : St} {Hf : Hp} {Q : Shared → Prop}, Inv (X.suite a ((a, oeC) :: (X.pn ++ pins))) [] σf Hf sf → (∀ s7, Inv X pins (σf.set i none) Hf s7 → Q s7) →
              wpAny (model X.prog X.w) X.A (do bindName X.env n .none; unbindBehindTheSuite X.env n p') (fun _ s7 => Q s7) X.xe sf := fun {σf Hf Q} Sf hq => gone_ok (Sf.unsuite okX) hN hi hk hq
          cases f with
          | ret u => exact let ⟨v, σf, Hf, Sf, rf, qf⟩ := q; bye Sf fun s7 J7 => ⟨v, _, Hf, J7, rf, qf⟩
          | next => exact let ⟨σf, Hf, Sf, qf⟩ := q; bye Sf fun s7 J7 => ⟨_, Hf, J7, qf⟩
          | brk => exact let ⟨σf, Hf, Sf, qf⟩ := q; bye Sf fun s7 J7 => ⟨_, Hf, J7, qf⟩
          | cont => exact let ⟨σf, Hf, Sf, qf⟩ := q; bye Sf fun s7 J7 => ⟨_, Hf, J7, qf⟩
        | false =>
          show wpAny _ X.A (handleBy (.ref a) X.env hl2) _ _ _
          exact ih (no rfl)
    exact go hh wish
  · cases f with
    | ret u => exact let ⟨v, σf, Hf, Jf, r, q⟩ := hsp; ⟨v, σf, Hf, Jf.ofTry okX, r, q⟩
    | next => exact let ⟨σf, Hf, Jf, q⟩ := hsp; wpAny_execs_nil ⟨σf, Hf, Jf.ofTry okX, q⟩
    | brk => exact let ⟨σf, Hf, Jf, q⟩ := hsp; ⟨σf, Hf, Jf.ofTry okX, q⟩
    | cont => exact let ⟨σf, Hf, Jf, q⟩ := hsp; ⟨σf, Hf, Jf.ofTry okX, q⟩
end
end Fx

namespace Fx
open PySem PySem.Spec PyProof.Rows L2

/-! ### try, mirrored -/
abbrev MH := Ex → MS
abbrev Tab := String → String → Option Bool
abbrev HCl := String × Option Nat × MH
def dropS (i : Nat) : ResS → ResS
  | .nx sd S => .nx (sd.set i none) S
  | .bk sd S => .bk (sd.set i none) S
  | .ct sd S => .ct (sd.set i none) S
  | .rt d S => .rt d S
  | .exc _ _ _ => .stk
  | .stk => .stk
def plainS : ResS → ResS
  | .exc _ _ _ => .stk
  | r => r
def mHd (tab : Tab) (x : Ex) : List HCl → MS
  | [], sd, S => .exc x sd S
  | (n, oi, m) :: r, sd, S => match tab x.cls n with
    | some true => (match oi with
      | none => plainS (m x sd S)
      | some i => if i < sd.length then dropS i (m x (sd.set i none) S) else .stk)
    | some false => mHd tab x r sd S
    | none => .stk
def mTry (tab : Tab) (b : MS) (hs : List HCl) : MS := fun sd S => match b sd S with
  | .exc x sd1 S1 => mHd tab x hs sd1 S1
  | r => r
/-- what a suite is told of the caught exception -/
def tHd (mg : Str → Option Value) (K : PySem.W.Frag) (oi : Option Nat) (m : MH) (a : Addr) (cls : Value) (d : Option Addr) : TS := fun D σ H =>
  ∃ x μ S sd, StoRep mg K μ S H ∧ SlRep K μ H sd σ ∧ ExRep mg K μ H x cls d ∧ (∀ i, oi = some i → σ[i]? = some (some (.ref a))) ∧ FinS mg K W0 μ H (m x sd S) D
/-- a clause is right: its class is told by the table, its suite does what its mirror says -/
inductive HsOk (X : Cx) (tab : Tab) : List ExceptHandler → List HCl → List Clause → Prop
  | nil : HsOk X tab [] [] []
  | only {n : String} {c : Value} {m : MH} {st : Stmt} {su : List Stmt} {p p' : Pos} {hl : List ExceptHandler} {hs : List HCl} {l : List Clause} (hc : Names X (Str.ofString n) c)
      (ht : ∀ y b, tab y n = some b → ∀ C, X.mg (Str.ofString y) = some (.ref C) → PySem.W.exmOne X.K (.ref C) c = some b)
      (hsu : ∀ a oe cls d pn, Zc cls d oe → (∃ vs, oe.data = .fields vs) → PSs (X.suite a ((a, oe) :: pn)) (st :: su) (tHd X.mg X.K none m a cls d)) (r : HsOk X tab hl hs l) :
      HsOk X tab (.ExceptHandler (some (.Name (Str.ofString n) p)) none (st :: su) p' :: hl) ((n, none, m) :: hs) ((c, none, tHd X.mg X.K none m) :: l)
  | named {n : String} {v : Str} {i : Nat} {c : Value} {m : MH} {st : Stmt} {su : List Stmt} {p p' : Pos} {hl : List ExceptHandler} {hs : List HCl} {l : List Clause} (hc : Names X (Str.ofString n) c)
      (ht : ∀ y b, tab y n = some b → ∀ C, X.mg (Str.ofString y) = some (.ref C) → PySem.W.exmOne X.K (.ref C) c = some b) (hi : X.N[i]? = some v) (hk : X.env.kindOf v = some .local)
      (hsu : ∀ a oe cls d pn, Zc cls d oe → (∃ vs, oe.data = .fields vs) → PSs (X.suite a ((a, oe) :: pn)) (st :: su) (tHd X.mg X.K (some i) m a cls d)) (r : HsOk X tab hl hs l) :
      HsOk X tab (.ExceptHandler (some (.Name (Str.ofString n) p)) (some v) (st :: su) p' :: hl) ((n, some i, m) :: hs) ((c, some i, tHd X.mg X.K (some i) m) :: l)
section
variable {X : Cx} {W : WX} {tab : Tab}
theorem HsOk.clauses {hl : List ExceptHandler} {hs : List HCl} {l : List Clause} (h : HsOk X tab hl hs l) : ClausesOk X hl l := by
  induction h with
  | nil => exact .nil
  | only hc ht hsu r ih => exact .only hc hsu ih
  | named hc ht hi hk hsu r ih => exact .named hc hi hk hsu ih
theorem slRep_any {K : PySem.W.Frag} {μ : Mu} {H : Hp} {sd : Sl} {σ : St} {i : Nat} {v : Option V} (h : SlRep K μ H sd σ) : SlRep K μ H (sd.set i none) (σ.set i v) where
  len := by simp [h.len]
  at_ := fun j e q => by
    by_cases hj : j = i
    · subst hj
      rw [List.getElem?_set] at q
      simp at q
    · rw [List.getElem?_set_ne (Ne.symm hj)] at q ⊢
      exact h.at_ j e q
theorem finS_drop {mg : Str → Option Value} {K : PySem.W.Frag} {μ : Mu} {H : Hp} {r : ResS} {D : Ends} {i : Nat} (h : FinS mg K W μ H (dropS i r) D) : FinS mg K W0 μ H r (dropE i D) := by
  cases r with
  | nx sd S => exact fun σ' H' μ' u s l => h _ H' μ' u s (slRep_any l)
  | bk sd S => exact fun σ' H' μ' u s l => h _ H' μ' u s (slRep_any l)
  | ct sd S => exact fun σ' H' μ' u s l => h _ H' μ' u s (slRep_any l)
  | rt d S => exact h
  | exc x sd S => exact h.elim
  | stk => exact h.elim
theorem finS_plain {mg : Str → Option Value} {K : PySem.W.Frag} {μ : Mu} {H : Hp} {r : ResS} {D : Ends} (h : FinS mg K W μ H (plainS r) D) : FinS mg K W0 μ H r D := by
  cases r with
  | exc x sd S => exact h.elim
  | nx sd S => exact h
  | bk sd S => exact h
  | ct sd S => exact h
  | rt d S => exact h
  | stk => exact h
theorem wMix_of {hl : List ExceptHandler} {hs : List HCl} {l : List Clause} {x : Ex} {D : Ends} {S : List Cell} {sd : Sl} {μ : Mu} {H : Hp} {σ : St} {cls : Value} {d : Option Addr} (h : HsOk X tab hl hs l) (ss : StoRep X.mg X.K μ S H) (sl : SlRep X.K μ H sd σ) (ex : ExRep X.mg X.K μ H x cls d)
    (f : FinS X.mg X.K W μ H (mHd tab x hs sd S) D) : wMix X.K W D l cls d σ H := by
  induction h with
  | nil => exact f cls d σ H μ .refl ss sl ex
  | @only n c m st su p p' hl hs l hc ht hsu r ih =>
    unfold mHd at f
    cases ht1 : tab x.cls n with
    | none => rw [ht1] at f; exact f.elim
    | some b =>
      rw [ht1] at f
      refine ⟨b, ?_, fun hb a ha => ?_, fun hb => ?_⟩
      · obtain ⟨C, dd, fs, e1, e2, e3, _⟩ := ex
        rw [e1]
        exact ht _ _ ht1 C e3
      · subst hb
        exact ⟨x, μ, S, sd, ss, sl, ex, fun i z => (by cases z), finS_plain f⟩
      · subst hb
        exact ih f
  | @named n v i c m st su p p' hl hs l hc ht hi hk hsu r ih =>
    unfold mHd at f
    cases ht1 : tab x.cls n with
    | none => rw [ht1] at f; exact f.elim
    | some b =>
      rw [ht1] at f
      refine ⟨b, ?_, fun hb a ha => ?_, fun hb => ?_⟩
      · obtain ⟨C, dd, fs, e1, e2, e3, _⟩ := ex
        rw [e1]
        exact ht _ _ ht1 C e3
      · subst hb
        simp only at f
        split at f
        · rename_i hlt
          refine ⟨x, μ, S, sd.set i none, ss, slRep_any sl, ex, fun j z => ?_, finS_drop f⟩
          cases z
          rw [List.getElem?_set_self (by rw [← sl.len]; exact hlt)]
        · exact f.elim
      · subst hb
        exact ih f
theorem ss_try {body : List Stmt} {hd : ExceptHandler} {hl : List ExceptHandler} {hs : List HCl} {l : List Clause} {mb : MS} {pos : Pos} (hS : X.stack = X.env :: X.outer) (hF : X.env.frame = some X.env.locals) (hN : X.N.Nodup) (tk : Takes X W)
    (hb : ∀ (W : WX) (pn : List (Addr × Obj)) (xe : Value → Shared → Prop), Takes (X.tr pn xe) W → PassesOwn (model X.prog X.w) X.A X.env xe → SB (X.tr pn xe) W body mb)
    (hh : HsOk X tab (hd :: hl) hs l) : SS X W (.Try body (hd :: hl) [] [] pos) (mTry tab mb hs) := by
  refine (ps_try_mix (tb := fun W => tS (X.tr X.pn X.xe) W mb) hS hF hN tk (fun W pn xe t p => hb W pn xe t p) hh.clauses).impF fun D σ H ⟨μ, S, sd, ss, sl, f⟩ => ?_
  refine ⟨μ, S, sd, ss, sl, ?_⟩
  unfold mTry at f
  generalize mb sd S = r at f
  cases r with
  | nx sd1 S1 => exact f
  | rt d S1 => exact f
  | bk sd1 S1 => exact f
  | ct sd1 S1 => exact f
  | exc x sd1 S1 => exact fun cls dx σ' H' μ' u s l1 e => wMix_of hh s l1 e (FinS.up u f)
  | stk => exact f
/-- a suite that does not ask for the exception -/
theorem hd_plain {a : Addr} {oe : Obj} {pn : List (Addr × Obj)} {su : List Stmt} {m : MS} {oi : Option Nat} {cls : Value} {d : Option Addr} (h : SB (X.suite a ((a, oe) :: pn)) W0 su m) : PSs (X.suite a ((a, oe) :: pn)) su (tHd X.mg X.K oi (fun _ => m) a cls d) :=
  h.impF fun D σ H ⟨x, μ, S, sd, ss, sl, ex, hi, f⟩ => ⟨μ, S, sd, ss, sl, f⟩

/-! ### in a suite: return of constants, names and the exception's fields -/
def exGet (f : String) (x : Ex) : Option D := (x.fs.find? fun p => p.1 == f).map (·.2)
def pxC (d : D) : Ex → Sl → Option D := fun _ _ => some d
def pxV (j : Nat) : Ex → Sl → Option D := fun _ sd => match sd[j]? with | some (some d) => some d | _ => none
def pxF (cl : List String) (f : String) : Ex → Sl → Option D := fun x _ => if x.cls ∈ cl then exGet f x else none
def pxs0 : Ex → Sl → Option (List D) := fun _ _ => some []
def pxs1 (g : Ex → Sl → Option D) (gs : Ex → Sl → Option (List D)) : Ex → Sl → Option (List D) := fun x sd => (g x sd).bind fun y => (gs x sd).map fun ys => y :: ys
def tPX (mg : Str → Option Value) (K : PySem.W.Frag) (i : Nat) (a : Addr) (cls : Value) (d : Option Addr) (g : Ex → Sl → Option D) : TE := fun σ H Q =>
  ∃ x μ S sd dv, StoRep mg K μ S H ∧ SlRep K μ H sd σ ∧ ExRep mg K μ H x cls d ∧ σ[i]? = some (some (.ref a)) ∧ g x sd = some dv ∧ ∀ v, RepV K μ H dv v → Q v H
def tPXs (mg : Str → Option Value) (K : PySem.W.Frag) (i : Nat) (a : Addr) (cls : Value) (d : Option Addr) (g : Ex → Sl → Option (List D)) : TA := fun σ H Q =>
  ∃ x μ S sd dv, StoRep mg K μ S H ∧ SlRep K μ H sd σ ∧ ExRep mg K μ H x cls d ∧ σ[i]? = some (some (.ref a)) ∧ g x sd = some dv ∧ ∀ v, RepL K μ H dv v → Q v H
abbrev PX (X : Cx) (i : Nat) (a : Addr) (cls : Value) (d : Option Addr) (e : Expr) (g : Ex → Sl → Option D) : Prop := PE X e (tPX X.mg X.K i a cls d g)
abbrev PXs (X : Cx) (i : Nat) (a : Addr) (cls : Value) (d : Option Addr) (es : List Expr) (g : Ex → Sl → Option (List D)) : Prop := PA X es (tPXs X.mg X.K i a cls d g)
variable {i : Nat} {a : Addr} {cls : Value} {d : Option Addr}
theorem px_str {x j pos} : PX X i a cls d (.Constant (.str x) j pos) (pxC (.str x.cps.toList)) :=
  pe_str.impF fun σ H Q ⟨x', μ, S, sd, dv, ss, sl, ex, hi, e, q⟩ => by
    cases e
    refine q _ ?_
    have := RepV.str (K := X.K) (μ := μ) (H := H) x.cps.toList
    rwa [str_back] at this
theorem px_var (j : Nat) {x : Str} {pos : Pos} (hN : X.N[j]? = some x := by rfl) (hv : Vis X.env.scope x := by first | exact Or.inl rfl | exact Or.inr (Or.inl rfl) | exact Or.inr (Or.inr rfl)) (hd : (x == ("__debug__" : Str)) = false := by decide)
    (hcd : (x == ("__classdict__" : Str)) = false := by decide) : PX X i a cls d (.Name x pos) (pxV j) :=
  (pe_var hN hv hd hcd).impF fun σ H Q ⟨x', μ, S, sd, dv, ss, sl, ex, hi, e, q⟩ => by
    have e' : sd[j]? = some (some dv) := by
      have e : (match sd[j]? with | some (some d) => some d | _ => none) = some dv := e
      split at e
      · rename_i q'
        cases e
        exact q'
      · cases e
    obtain ⟨v, h1, r⟩ := sl.at_ j dv e'
    exact ⟨v, h1, q v r⟩
theorem lookup_rep {K : PySem.W.Frag} {μ : Mu} {H : Hp} {f : String} {dv : D} : ∀ {fx : List (String × D)} {fs : List (Str × V)}, fs.map (·.1) = fx.map (fun p => Str.ofString p.1) → RepL K μ H (fx.map (·.2)) (fs.map (·.2)) → (∀ g, Str.ofString g = Str.ofString f → g = f) →
    (fx.find? fun p => p.1 == f).map (·.2) = some dv → ∃ v, fs.lookup (Str.ofString f) = some v ∧ RepV K μ H dv v
  | [], _, _, _, _, e => by cases e
  | (g, x) :: fx, [], h1, _, _, _ => by cases h1
  | (g, x) :: fx, (k, y) :: fs, h1, h2, hj, e => by
    have k1 : k = Str.ofString g := (List.cons.inj h1).1
    have k2 := (List.cons.inj h1).2
    rw [lookup_put]
    cases h2 with
    | cons r1 r2 =>
      by_cases hg : g = f
      · subst hg
        rw [if_pos k1.symm]
        rw [List.find?_cons, show ((g, x).1 == g) = true from by simp] at e
        cases e
        exact ⟨y, rfl, r1⟩
      · rw [if_neg (fun z => hg (hj g ((z.trans k1).symm)))]
        rw [List.find?_cons, show ((g, x).1 == f) = false from by simpa using hg] at e
        exact lookup_rep k2 r2 hj e

/-- the classes whose fields may be read -/
def FieldsOk (mg : Str → Option Value) (K : PySem.W.Frag) (cl : List String) (f : String) : Prop := ∀ y ∈ cl, ∀ C, mg (Str.ofString y) = some (.ref C) → XfC K C ∧ PySem.W.findIn K (.ref C) (Str.ofString f) = some none
theorem px_field {oe : Obj} {pn : List (Addr × Obj)} {cl : List String} {f : String} {n : Str} {pos p : Pos} (hX : FieldsOk X.mg X.K cl f) (hj : ∀ g, Str.ofString g = Str.ofString f → g = f) (hz : Zc cls d oe) (hf : ∃ vs, oe.data = .fields vs)
    (hN : X.N[i]? = some n := by rfl) (hv : Vis X.env.scope n := by first | exact Or.inl rfl | exact Or.inr (Or.inl rfl) | exact Or.inr (Or.inr rfl)) (hd : (n == ("__debug__" : Str)) = false := by decide) (hcd : (n == ("__classdict__" : Str)) = false := by decide)
    (hb : attributeBase (.Name n p) (Str.ofString f) X.env (eval (.Name n p) X.env) = eval (.Name n p) X.env := by rfl) :
    PX (X.suite a ((a, oe) :: pn)) i a cls d (.Attribute (.Name n p) (Str.ofString f) pos) (pxF cl f) := by
  constructor
  intro pins s σ H Q I ⟨x, μ, S, sd, dv, ss, sl, ex, hi, e, q⟩
  obtain ⟨C, dd, fs, e1, e2, e3, e4, e5, e6⟩ := ex
  have e : (if x.cls ∈ cl then exGet f x else none) = some dv := e
  split at e
  · rename_i hm
    obtain ⟨T, hno⟩ := hX _ hm C e3
    obtain ⟨v, h1, r⟩ := lookup_rep e5 e6 hj e
    exact (pe_xf T hno hz hf (pe_var (X := X.suite a ((a, oe) :: pn)) (i := i) hN hv hd hcd) hb).run pins s σ H Q I ⟨.ref a, hi, rfl, e1, dd, fs, v, e2, e4, h1, q v r⟩
  · cases e
theorem pxs_nil : PXs X i a cls d [] pxs0 := pa_nil.impF fun σ H Q ⟨x, μ, S, sd, dv, ss, sl, ex, hi, e, q⟩ => by
  cases e
  exact q [] .nil
theorem pxs_cons {e : Expr} {es : List Expr} {g : Ex → Sl → Option D} {gs : Ex → Sl → Option (List D)} (he : PX X i a cls d e g) (hr : PXs X i a cls d es gs) (hst : starEach (e :: es) X.env = (false, eval e X.env) :: starEach es X.env := by rfl) :
    PXs X i a cls d (e :: es) (pxs1 g gs) := (pa_cons he hr hst).impF fun σ H Q ⟨x, μ, S, sd, dv, ss, sl, ex, hi, e, q⟩ => by
  obtain ⟨y, e1, e2⟩ := Option.bind_eq_some_iff.mp e
  obtain ⟨ys, e3, e4⟩ := Option.map_eq_some_iff.mp e2
  subst e4
  exact ⟨x, μ, S, sd, y, ss, sl, ex, hi, e1, fun v r => ⟨x, μ, S, sd, ys, ss, sl, ex, hi, e3, fun vs rs => q (v :: vs) (.cons r rs)⟩⟩
/-- return (..) -/
def retTx (gs : Ex → Sl → Option (List D)) : MH := fun x sd S => match gs x sd with | some ds => if ds.length ≤ sizeLine then .rt (.tup ds) S else .stk | none => .stk
/-- return e -/
def retX (g : Ex → Sl → Option D) : MH := fun x sd S => match g x sd with | some y => .rt y S | none => .stk
theorem hd_retT {es : List Expr} {gs : Ex → Sl → Option (List D)} {x1 pos pos'} (h : PXs X i a cls d es gs) : PSs X [.Return (some (.Tuple es x1 pos)) pos'] (tHd X.mg X.K (some i) (retTx gs) a cls d) :=
  (pss_one (ps_ret (pe_tup h))).impF fun D σ H ⟨x, μ, S, sd, ss, sl, ex, hi, f⟩ => by
    cases hg : gs x sd with
    | none =>
      have e : retTx gs x sd S = .stk := by unfold retTx; rw [hg]
      rw [e] at f
      exact f.elim
    | some ds =>
      by_cases hz : ds.length ≤ sizeLine
      · have e : retTx gs x sd S = .rt (.tup ds) S := by unfold retTx; rw [hg]; exact if_pos hz
        rw [e] at f
        refine ⟨x, μ, S, sd, ds, ss, sl, ex, hi i rfl, hg, fun vs r => ⟨by rw [← r.length]; exact hz, fun p hp => ?_⟩⟩
        exact f (.ref p) _ μ (up_tmp hp) (ss.tmp hp) (.tup (SqT.of upd_same) (r.up (up_tmp hp)))
      · have e : retTx gs x sd S = .stk := by unfold retTx; rw [hg]; exact if_neg hz
        rw [e] at f
        exact f.elim
theorem hd_ret {e : Expr} {g : Ex → Sl → Option D} {pos'} (h : PX X i a cls d e g) : PSs X [.Return (some e) pos'] (tHd X.mg X.K (some i) (retX g) a cls d) :=
  (pss_one (ps_ret h)).impF fun D σ H ⟨x, μ, S, sd, ss, sl, ex, hi, f⟩ => by
    cases hg : g x sd with
    | none =>
      have e : retX g x sd S = .stk := by unfold retX; rw [hg]
      rw [e] at f
      exact f.elim
    | some y =>
      have e : retX g x sd S = .rt y S := by unfold retX; rw [hg]
      rw [e] at f
      exact ⟨x, μ, S, sd, y, ss, sl, ex, hi i rfl, hg, fun v r => f v H μ .refl ss r⟩
end
end Fx

namespace Fx
open PySem PySem.Spec PyProof.Rows L2
/-! ### texts: str(), int(), join -/
def stS (x : List Nat) : Str := ⟨x.toArray⟩
def istr (i : Int) : List Nat := (Str.ofString (toString i)).cps.toList
def cLog (i : Int) : Bool := decide (i.natAbs.log2 < 1920)
def oStrC : OC := fun ds S => match ds with
  | [.int i] => if cLog i then .ok (.str (istr i)) S else .stk
  | [.str x] => .ok (.str x) S
  | _ => .stk
def oIntS : OC := fun ds S => match ds with
  | [.int i] => .ok (.int i) S
  | [.bl b] => .ok (.int (if b then 1 else 0)) S
  | [.str x] => match PySem.intText? (stS x) with
    | some n => if x.length ≤ 640 then .ok (.int n) S else .stk
    | none => .stk
  | _ => .stk
def strsD : List D → Option (List (List Nat))
  | [] => some []
  | .str x :: r => (strsD r).map (x :: ·)
  | _ :: _ => none
def joinS (a : List Nat) (ys : List (List Nat)) : List Nat := (Txt.join (stS a) (ys.map stS)).cps.toList
def mJoin (mo me : ME) : ME := fun sd S => (mo sd S).bind fun d S1 => match d with
  | .str a => (me sd S1).bind fun e S2 => match (seqD S2 e).bind strsD with
    | some ys => if (ys.map List.length).sum + ys.length * a.length ≤ 16777216 then .ok (.str (joinS a ys)) S2 else .stk
    | none => .stk
  | _ => .stk
section
variable {X : Cx} {W : WX} {μ : Mu} {S : List Cell} {H : Hp}
theorem rep_str {K : PySem.W.Frag} (x : Str) : RepV K μ H (.str x.cps.toList) (.str x) := by
  have := RepV.str (K := K) (μ := μ) (H := H) x.cps.toList
  rwa [str_back] at this
theorem cd_str : CallD X W (.type "str") oStrC := by
  refine ⟨_, call_str_int.or SkE.call_str_str, fun σ H μ S ds vs Q hs r h => ?_⟩
  unfold oStrC at h
  split at h
  · split at h
    · rename_i i hc
      obtain ⟨v, rfl, r1⟩ := r.one
      cases r1
      exact .inl ⟨i, rfl, of_decide_eq_true hc, h _ H μ .refl hs (rep_str _)⟩
    · exact h.elim
  · obtain ⟨v, rfl, r1⟩ := r.one
    cases r1
    exact .inr ⟨_, rfl, h _ H μ .refl hs (.str _)⟩
  · exact h.elim
theorem cd_intS : CallD X W (.type "int") oIntS := by
  refine ⟨_, call_int1.or call_int_str, fun σ H μ S ds vs Q hs r h => ?_⟩
  unfold oIntS at h
  split at h
  · obtain ⟨v, rfl, r1⟩ := r.one
    cases r1
    exact .inl (.inl ⟨_, rfl, h _ H μ .refl hs (.int _)⟩)
  · obtain ⟨v, rfl, r1⟩ := r.one
    cases r1
    exact .inl (.inr ⟨_, rfl, h _ H μ .refl hs (.int _)⟩)
  · obtain ⟨v, rfl, r1⟩ := r.one
    cases r1
    split at h
    · split at h
      · rename_i n e hz
        exact .inr ⟨_, n, rfl, e, by show Array.size _ ≤ _; simpa using hz, h _ H μ .refl hs (.int _)⟩
      · exact h.elim
    · exact h.elim
  · exact h.elim
theorem strsD_ok {K : PySem.W.Frag} : ∀ {ds : List D} {vs : List V} {ys : List (List Nat)}, RepL K μ H ds vs → strsD ds = some ys → vs = (ys.map stS).map V.str
  | [], _, _, r, e => by cases r; cases e; rfl
  | .str x :: ds, _, _, .cons (.str _) r, e => by
    obtain ⟨zs, e1, rfl⟩ := Option.map_eq_some_iff.mp e
    rw [strsD_ok r e1]
    rfl
  | .non :: _, _, _, _, e => by cases e
  | .bl _ :: _, _, _, _, e => by cases e
  | .int _ :: _, _, _, _, e => by cases e
  | .tup _ :: _, _, _, _, e => by cases e
  | .cst _ :: _, _, _, _, e => by cases e
  | .loc _ :: _, _, _, _, e => by cases e
  | .adr _ :: _, _, _, _, e => by cases e
theorem stS_len (y : List Nat) : (stS y).length = y.length := by show Array.size _ = _; simp [stS]
theorem se_join {o e : Expr} {mo me : ME} {apos pos : Pos} (ho : SE X W o mo) (he : SE X W e me) (hs : starEach [e] X.env = [(false, eval e X.env)] := by rfl) (hbase : attributeBase o "join" X.env (eval o X.env) = eval o X.env := by rfl) (hline : (apos.endLine == pos.line) = true := by rfl) :
    SE X W (.Call (.Attribute o "join" apos) [e] [] pos) (mJoin mo me) :=
  (pe_join ho he hs hbase hline).impF fun σ H Q ⟨μ, S, sd, hs, hl, h⟩ => tE_bind hs hl h fun d S1 μ1 v H1 s1 l1 u1 r1 h1 => by
    cases r1 with
    | str a =>
      refine ⟨⟨_, rfl⟩, tE_bind s1 l1 h1 fun e S2 μ2 v2 H2 s2 l2 u2 r2 h2 => ?_⟩
      split at h2
      · split at h2
        · rename_i ys ey hz
          obtain ⟨xs, e1, e2⟩ := Option.bind_eq_some_iff.mp ey
          obtain ⟨p, vs, rfl, hq, rl⟩ := s2.seqD r2 e1
          refine ⟨stS a, p, ys.map stS, rfl, rfl, ?_, ?_, h2 _ H2 μ2 .refl s2 (rep_str _)⟩
          · rw [← strsD_ok rl e2]
            exact hq
          · rw [List.map_map, List.length_map, stS_len, show (Str.length ∘ stS) = List.length from funext stS_len]
            exact hz
        · exact h2.elim
      · exact h2.elim
    | _ => exact h1.elim
/-- in place: ints, texts -/
def oAddS : O2 := fun d e S => match d, e with
  | .int i, .int j => .ok (.int (i + j)) S
  | .str x, .str y => if x.length + y.length ≤ sizeLine then .ok (.str (x ++ y)) S else .stk
  | _, _ => .stk
theorem od_iaddS : OpD X W (inplaceOp .Add) oAddS := by
  refine ⟨_, iop_add.or iop_add_str, fun σ H μ S d e x y Q hs rx ry h => ?_⟩
  unfold oAddS at h
  split at h
  · exact .inl ⟨_, _, rx.inv_int, ry.inv_int, h _ H μ .refl hs (.int _)⟩
  · split at h
    · rename_i hz
      refine .inr ⟨_, _, rx.inv_str, ry.inv_str, ?_, ?_⟩
      · show (List.toArray _).size + (List.toArray _).size ≤ _
        simpa using hz
      · rw [str_app]
        exact h _ H μ .refl hs (.str _)
    · exact h.elim
  · exact h.elim
end
end Fx

namespace Fx
open PySem PySem.Spec PyProof.Rows L2
/-! ### dicts whose keys are ints and texts -/
def keyD : D → Option Key
  | .int i => some (.inl i)
  | .str x => some (.inr (stS x))
  | _ => none
def getK (kvs : List (Key × D)) (k : Key) : Option D := (kvs.find? fun kv => decide (kv.1 = k)).map (·.2)
def putKD (kvs : List (Key × D)) (k : Key) (v : D) : List (Key × D) :=
  if (kvs.any fun kv => decide (kv.1 = k)) = true then kvs.map (fun kv => if kv.1 = k then (kv.1, v) else kv) else kvs ++ [(k, v)]
def mergeD (kvs more : List (Key × D)) : List (Key × D) := more.foldl (fun acc kv => putKD acc kv.1 kv.2) kvs
inductive KR (K : PySem.W.Frag) (μ : Mu) (H : Hp) : List (Key × D) → List (Key × V) → Prop
  | nil : KR K μ H [] []
  | cons {k : Key} {d : D} {v : V} {ds : List (Key × D)} {vs : List (Key × V)} : RepV K μ H d v → KR K μ H ds vs → KR K μ H ((k, d) :: ds) ((k, v) :: vs)
section
variable {K : PySem.W.Frag} {μ : Mu} {H : Hp}
theorem KR.of : ∀ {ds : List (Key × D)} {vs : List (Key × V)}, vs.map (·.1) = ds.map (·.1) → RepL K μ H (ds.map (·.2)) (vs.map (·.2)) → KR K μ H ds vs
  | [], [], _, _ => .nil
  | [], _ :: _, h, _ => by cases h
  | _ :: _, [], h, _ => by cases h
  | (k, d) :: ds, (j, v) :: vs, h, r => by
    have h1 : j = k := (List.cons.inj h).1
    subst h1
    cases r with
    | cons r1 r2 => exact .cons r1 (KR.of (List.cons.inj h).2 r2)
theorem KR.keys {ds : List (Key × D)} {vs : List (Key × V)} (r : KR K μ H ds vs) : vs.map (·.1) = ds.map (·.1) := by
  induction r with
  | nil => rfl
  | cons _ _ ih => exact congrArg _ ih
theorem KR.vals {ds : List (Key × D)} {vs : List (Key × V)} (r : KR K μ H ds vs) : RepL K μ H (ds.map (·.2)) (vs.map (·.2)) := by
  induction r with
  | nil => exact .nil
  | cons r1 _ ih => exact .cons r1 ih
theorem KR.length {ds : List (Key × D)} {vs : List (Key × V)} (r : KR K μ H ds vs) : vs.length = ds.length := by
  induction r with
  | nil => rfl
  | cons _ _ ih => exact congrArg _ ih
theorem KR.get {k : Key} {ds : List (Key × D)} {vs : List (Key × V)} (r : KR K μ H ds vs) : (∀ d, getK ds k = some d → ∃ v, valV vs k = some v ∧ RepV K μ H d v) ∧ (getK ds k = none → valV vs k = none) := by
  induction r with
  | nil => exact ⟨fun d h => by (cases h), fun _ => rfl⟩
  | @cons j d v ds vs r1 _ ih =>
    unfold getK valV at ih ⊢
    by_cases e : j = k
    · simp only [List.find?_cons, e, decide_true, Option.map_some]
      exact ⟨fun d' h => by cases h; exact ⟨v, rfl, r1⟩, fun h => by cases h⟩
    · simp only [List.find?_cons, e, decide_false]
      exact ih
theorem KR.any {k : Key} {ds : List (Key × D)} {vs : List (Key × V)} (r : KR K μ H ds vs) : (vs.any fun kv => decide (kv.1 = k)) = (ds.any fun kv => decide (kv.1 = k)) := by
  induction r with
  | nil => rfl
  | cons _ _ ih => simp only [List.any_cons, ih]
theorem KR.mapped {k : Key} {d : D} {v : V} {ds : List (Key × D)} {vs : List (Key × V)} (r : KR K μ H ds vs) (h : RepV K μ H d v) : KR K μ H (ds.map fun kv => if kv.1 = k then (kv.1, d) else kv) (vs.map fun kv => if kv.1 = k then (kv.1, v) else kv) := by
  induction r with
  | nil => exact .nil
  | @cons j e w ds vs r1 _ ih =>
    simp only [List.map_cons]
    by_cases e : j = k
    · simp only [e, if_true]
      exact .cons h ih
    · simp only [e, if_false]
      exact .cons r1 ih
theorem KR.snoc {k : Key} {d : D} {v : V} {ds : List (Key × D)} {vs : List (Key × V)} (r : KR K μ H ds vs) (h : RepV K μ H d v) : KR K μ H (ds ++ [(k, d)]) (vs ++ [(k, v)]) := by
  induction r with
  | nil => exact .cons h .nil
  | cons r1 _ ih => exact .cons r1 ih
theorem KR.put {k : Key} {d : D} {v : V} {ds : List (Key × D)} {vs : List (Key × V)} (r : KR K μ H ds vs) (h : RepV K μ H d v) : KR K μ H (putKD ds k d) (putK vs k v) := by
  unfold putKD putK
  rw [r.any]
  split
  · exact r.mapped h
  · exact r.snoc h
theorem KR.merge {more : List (Key × D)} {mw : List (Key × V)} (r : KR K μ H more mw) : ∀ {ds : List (Key × D)} {vs : List (Key × V)}, KR K μ H ds vs → KR K μ H (mergeD ds more) (mergeK vs mw) := by
  induction r with
  | nil => exact fun q => q
  | cons r1 _ ih => exact fun q => ih (q.put r1)
theorem keyD_ok {d : D} {v : V} {k : Key} (r : RepV K μ H d v) (h : keyD d = some k) : v = kV k := by
  cases r with
  | int i => cases h; rfl
  | str x => cases h; rfl
  | _ => cases h
end
def dicD (S : List Cell) (d : D) : Option (Nat × List (Key × D)) := match d with
  | .loc n => match S[n]? with
    | some (.dic kvs) => some (n, kvs)
    | _ => none
  | _ => none
section
variable {X : Cx} {W : WX} {μ : Mu} {S : List Cell} {H : Hp}
theorem dicD_ok {mg : Str → Option Value} {K : PySem.W.Frag} {d : D} {x : V} {n : Nat} {kvs : List (Key × D)} (hs : StoRep mg K μ S H) (r : RepV K μ H d x) (h : dicD S d = some (n, kvs)) :
    d = .loc n ∧ ∃ a ws, x = .ref a ∧ μ[n]? = some a ∧ H a = some (.dK ws) ∧ KR K μ H kvs ws := by
  unfold dicD at h
  split at h
  · rename_i n'
    split at h
    · rename_i kvs' e
      cases h
      cases r with
      | loc en =>
        obtain ⟨ws, h1, h2, h3⟩ := hs.at_ _ _ _ e en
        exact ⟨rfl, _, ws, rfl, en, h1, .of h2 h3⟩
    · cases h
  · cases h
/-- o[i] -/
def oIxA : O2 := fun d e S => match dicD S d with
  | some (_, kvs) => optR ((keyD e).bind fun k => getK kvs k) S
  | none => oIx d e S
theorem ix_dict (hu : X.A.units + 1 < cLine) : IxR X (fun x y H Q => ∃ a v, x = .ref a ∧ DGet H a y (some v) ∧ Q v H) := by
  intro value slice pins s σ H x y v u Q I rx ry ⟨a, w, ex, g, q⟩ hs
  subst ex
  obtain rfl : v = Value.ref a := rx
  exact PyProof.Rows.tail_any (dict_typeIs I g) PySem.F.slot_dict_getitem.lookup (d_getItem hu I g ry fun w' s3 I3 rw' => ⟨w, H, I3, rw', q⟩) hs
theorem se_ixA {a b : Expr} {ma mb : ME} {pos : Pos} (hu : X.A.units + 64 < cLine) (ha : SE X W a ma) (hb : SE X W b mb) (hp : PlainIx b := by intro _ _; rfl) : SE X W (.Subscript a b pos) (mBin oIxA ma mb) := by
  refine (pe_ix (ix_seq.or (ix_dict (by omega))) ha hb hp).impF (bin_of ha hb fun σ H μ S d e x y Q hs rx ry h => ?_)
  unfold oIxA at h
  split at h
  · rename_i n kvs ed
    unfold optR at h
    split at h
    · rename_i w ew
      obtain ⟨k, e1, e2⟩ := Option.bind_eq_some_iff.mp ew
      obtain ⟨rfl, p, ws, rfl, en, hp, kr⟩ := dicD_ok hs rx ed
      obtain ⟨v, hv, rv⟩ := kr.get.1 w e2
      refine .inr ⟨p, v, rfl, ?_, h _ H μ .refl hs rv⟩
      rw [keyD_ok ry e1, ← hv]
      exact DGet.k hp
    · exact h.elim
  · exact .inl (ix_old hs rx ry h)
/-- k in o -/
def oInA : O2 := fun d e S => match dicD S e with
  | some (_, kvs) => (match keyD d with | some k => .ok (.bl (getK kvs k).isSome) S | none => .stk)
  | none => oIn d e S
def oNotInA : O2 := fun d e S => match dicD S e with
  | some (_, kvs) => (match keyD d with | some k => .ok (.bl (!(getK kvs k).isSome)) S | none => .stk)
  | none => oNotIn d e S
theorem op_din (hu : X.A.units + 1 < cLine) : OpR X (compareOp .In) (fun x y H Q => ∃ a o, y = .ref a ∧ DGet H a x o ∧ Q (.bl o.isSome) H) := by
  intro pins s σ H x y v u Q I rx ry ⟨a, o, ey, g, q⟩
  subst ey
  obtain rfl : u = Value.ref a := ry
  exact d_in hu I g rx fun s3 I3 => ⟨.bl o.isSome, H, I3, rfl, q⟩
theorem op_dnotIn (hu : X.A.units + 1 < cLine) : OpR X (compareOp .NotIn) (fun x y H Q => ∃ a o, y = .ref a ∧ DGet H a x o ∧ Q (.bl (!o.isSome)) H) := by
  intro pins s σ H x y v u Q I rx ry ⟨a, o, ey, g, q⟩
  subst ey
  obtain rfl : u = Value.ref a := ry
  exact d_notIn hu I g rx fun s3 I3 => ⟨.bl (!o.isSome), H, I3, rfl, q⟩
theorem isSome_get {K : PySem.W.Frag} {k : Key} {ds : List (Key × D)} {vs : List (Key × V)} (r : KR K μ H ds vs) : (valV vs k).isSome = (getK ds k).isSome := by
  cases h : getK ds k with
  | none => rw [r.get.2 h]; rfl
  | some d => obtain ⟨v, hv, _⟩ := r.get.1 d h; rw [hv]; rfl
theorem od_inA (hu : X.A.units + 64 < cLine) : OpD X W (compareOp .In) oInA := by
  obtain ⟨r, h1, h2⟩ := od_in (X := X) (W := W)
  refine ⟨_, h1.or (op_din (by omega)), fun σ H μ S d e x y Q hs rx ry h => ?_⟩
  unfold oInA at h
  split at h
  · rename_i n kvs ed
    split at h
    · rename_i k ek
      obtain ⟨rfl, p, ws, rfl, en, hp, kr⟩ := dicD_ok hs ry ed
      refine .inr ⟨p, valV ws k, rfl, ?_, ?_⟩
      · rw [keyD_ok rx ek]
        exact DGet.k hp
      · rw [isSome_get kr]
        exact h _ H μ .refl hs (.bl _)
    · exact h.elim
  · exact .inl (h2 σ H μ S d e x y Q hs rx ry h)
theorem od_notInA (hu : X.A.units + 64 < cLine) : OpD X W (compareOp .NotIn) oNotInA := by
  obtain ⟨r, h1, h2⟩ := od_notIn (X := X) (W := W)
  refine ⟨_, h1.or (op_dnotIn (by omega)), fun σ H μ S d e x y Q hs rx ry h => ?_⟩
  unfold oNotInA at h
  split at h
  · rename_i n kvs ed
    split at h
    · rename_i k ek
      obtain ⟨rfl, p, ws, rfl, en, hp, kr⟩ := dicD_ok hs ry ed
      refine .inr ⟨p, valV ws k, rfl, ?_, ?_⟩
      · rw [keyD_ok rx ek]
        exact DGet.k hp
      · rw [isSome_get kr]
        exact h _ H μ .refl hs (.bl _)
    · exact h.elim
  · exact .inl (h2 σ H μ S d e x y Q hs rx ry h)
end
end Fx
namespace Fx
open PySem PySem.Spec PyProof.Rows L2
section
variable {X : Cx} {W : WX} {μ : Mu} {S : List Cell} {H : Hp}
theorem set_dict (hu : X.A.units + 1 < cLine) : PSet X (fun o i v H Q => ∃ a H4, o = .ref a ∧ DPut H a i v H4 ∧ Q H4) := by
  intro pins s σ H o i v ov iv u Q I ro ri rv ⟨a, H4, eo, g, q⟩
  subst eo
  obtain rfl : ov = Value.ref a := ro
  exact d_setItem hu I g ri rv fun s4 I4 => ⟨H4, I4, q⟩
theorem PSet.orF {t t' : TSet} (h : PSet X t) (h' : PSet X t') : PSet X (fun o i v H Q => t o i v H Q ∨ t' o i v H Q) := fun pins s σ H o i v ov iv u Q I ro ri rv q => q.elim (h pins s σ H o i v ov iv u Q I ro ri rv) (h' pins s σ H o i v ov iv u Q I ro ri rv)
/-- o[i] = v, of a list or a dict -/
def setD (d e v : D) (S : List Cell) : Option (List Cell) := match dicD S d with
  | some (n, kvs) => (match keyD e with
    | some k => if kvs.length < sizeLine then some (S.set n (.dic (putKD kvs k v))) else none
    | none => none)
  | none => match d, e with
    | .loc n, .int k => (match mlst S n with
      | some xs => (match ixN xs.length k with
        | some j => some (S.set n (.lst (xs.set j v)))
        | none => none)
      | none => none)
    | _, _ => none
theorem setD_ok {mg : Str → Option Value} {K : PySem.W.Frag} {d e v : D} {S' : List Cell} {x y z : V} (hs : StoRep mg K μ S H) (rx : RepV K μ H d x) (ry : RepV K μ H e y) (rv : RepV K μ H v z) (h : setD d e v S = some S') :
    ∃ H', (rSetL x y z H (fun H2 => H2 = H') ∨ ∃ a H4, x = .ref a ∧ DPut H a y z H4 ∧ H4 = H') ∧ Up μ H μ H' ∧ StoRep mg K μ S' H' := by
  unfold setD at h
  split at h
  · rename_i n kvs ed
    split at h
    · rename_i k ek
      split at h
      · rename_i hz
        cases h
        obtain ⟨rfl, p, ws, rfl, en, hp, kr⟩ := dicD_ok hs rx ed
        have m1 : ∀ xs, H p ≠ some (.tup xs) := fun xs q => by rw [hp] at q; cases q
        have m2 : ∀ o u, H p ≠ some (.frz o u) := fun o u q => by rw [hp] at q; cases q
        have up := up_mut (o := .dK (putK ws k z)) (List.mem_of_getElem? en) m1 m2
        refine ⟨_, .inr ⟨p, _, rfl, ?_, rfl⟩, up, hs.mut en m1 m2 ?_⟩
        · rw [keyD_ok ry ek]
          exact DPut.k hp (by rw [kr.length]; exact hz)
        · have kr2 := kr.put (k := k) rv
          exact ⟨_, upd_same, kr2.keys, kr2.vals.up up⟩
      · cases h
    · cases h
  · split at h
    · rename_i n k _
      split at h
      · rename_i xs e1
        split at h
        · rename_i j ej
          cases h
          cases rx with
          | @loc _ p en =>
            obtain ⟨vs, hv, rl⟩ := mlst_ok hs en e1
            have up := up_put (μ := μ) (o := .lst (vs.set j z)) (List.mem_of_getElem? en) hv
            exact ⟨_, .inl ⟨p, vs, k, j, rfl, ry.inv_int, hv, by rw [← rl.length]; exact ej, rfl⟩, up, hs.put en hv (rl.set rv j)⟩
        · cases h
      · cases h
    · cases h
def gSubA (o i : ME) : MG := fun v sd S => (o sd S).bind fun d S1 => (i sd S1).bind fun e S2 => match setD d e v S2 with | some S3 => .ok sd S3 | none => .stk
theorem sg_subA {o i : Expr} {mo mi : ME} {pos : Pos} (hu : X.A.units + 64 < cLine) (ho : SE X W o mo) (hi : SE X W i mi)
    (ha : ∀ v, assign (.Subscript o i pos) X.env v = (do
      let ov ← holding [v] (eval o X.env)
      let iv ← holding [v, ov] (eval i X.env)
      standAt pos
      holding [v, ov, iv] (setItem ov iv v)
      release [v, ov, iv] []) := by intro _; rfl) : SG X W (.Subscript o i pos) (gSubA mo mi) :=
  (pg_sub ho hi (PSet.orF set_list (set_dict (by omega))) ha).impF fun v σ H Q ⟨μ, S, sd, d, hs, hl, r, h⟩ => tE_bindG hs hl h fun d1 S1 μ1 v1 H1 hs1 hl1 u1 r1 h1 => tE_bindG hs1 hl1 h1 fun d2 S2 μ2 v2 H2 hs2 hl2 u2 r2 h2 => by
    split at h2
    · rename_i S3 e3
      obtain ⟨H', q, up, hs3⟩ := setD_ok hs2 (r1.up u2) r2 ((r.up u1).up u2) e3
      have fin : Q σ H' := h2 σ _ μ2 up hs3 (hl2.up up)
      rcases q with ⟨p, xs, k, j, a1, a2, a3, a4, a5⟩ | ⟨a, H4, a1, a2, a3⟩
      · exact .inl ⟨p, xs, k, j, a1, a2, a3, a4, by rw [a5]; exact fin⟩
      · exact .inr ⟨a, H4, a1, a2, by rw [a3]; exact fin⟩
    · exact h2.elim
/-- o.get(e, f) -/
def mGet2 (o e f : ME) : ME := fun sd S => (o sd S).bind fun d S1 => match dicD S1 d with
  | some _ => (e sd S1).bind fun k S2 => (f sd S2).bind fun z S3 => (match dicD S3 d, keyD k with
    | some (_, kvs), some k => .ok ((getK kvs k).getD z) S3
    | _, _ => .stk)
  | none => .stk
def mGet1 (o e : ME) : ME := fun sd S => (o sd S).bind fun d S1 => match dicD S1 d with
  | some _ => (e sd S1).bind fun k S2 => (match dicD S2 d, keyD k with
    | some (_, kvs), some k => .ok ((getK kvs k).getD .non) S2
    | _, _ => .stk)
  | none => .stk
theorem getD_rep {K : PySem.W.Frag} {k : Key} {ds : List (Key × D)} {vs : List (Key × V)} {z : D} {w : V} (r : KR K μ H ds vs) (rz : RepV K μ H z w) : RepV K μ H ((getK ds k).getD z) ((valV vs k).getD w) := by
  cases h : getK ds k with
  | none => rw [r.get.2 h]; exact rz
  | some d => obtain ⟨v, hv, rv⟩ := r.get.1 d h; rw [hv]; exact rv
theorem isD_of {mg : Str → Option Value} {K : PySem.W.Frag} {d : D} {x : V} {p : Nat × List (Key × D)} (hs : StoRep mg K μ S H) (r : RepV K μ H d x) (h : dicD S d = some p) : ∃ a, x = .ref a ∧ IsD H a := by
  obtain ⟨n, kvs⟩ := p
  obtain ⟨_, a, ws, rfl, _, hp, _⟩ := dicD_ok hs r h
  exact ⟨a, rfl, .inl ⟨ws, .inl hp⟩⟩
theorem se_get2 {o e f : Expr} {mo me mf : ME} {apos cpos : Pos} (hu : X.A.units + 64 < cLine) (ho : SE X W o mo) (he : SE X W e me) (hf : SE X W f mf)
    (m : M2 X o "get" apos e f cpos := by exact ⟨rfl, rfl, rfl, rfl⟩) : SE X W (.Call (.Attribute o "get" apos) [e, f] [] cpos) (mGet2 mo me mf) :=
  (pe_dget2 (by omega) ho he hf m).impF fun σ H Q ⟨μ, S, sd, hs, hl, h⟩ => tE_bind hs hl h fun d S1 μ1 x H1 s1 l1 u1 r1 h1 => by
    split at h1
    · rename_i p ed
      obtain ⟨a, rfl, hd⟩ := isD_of s1 r1 ed
      refine ⟨a, rfl, hd, tE_bind s1 l1 h1 fun k S2 μ2 y H2 s2 l2 u2 r2 h2 => tE_bind s2 l2 h2 fun z S3 μ3 w H3 s3 l3 u3 r3 h3 => ?_⟩
      split at h3
      · rename_i n kvs k' e1 e2
        obtain ⟨_, b, ws, eb, en, hp, kr⟩ := dicD_ok s3 ((r1.up u2).up u3) e1
        cases eb
        refine ⟨valV ws k', ?_, h3 _ H3 μ3 .refl s3 (getD_rep kr r3)⟩
        rw [keyD_ok (r2.up u3) e2]
        exact DGet.k hp
      · exact h3.elim
    · exact h1.elim
theorem se_get1 {o e : Expr} {mo me : ME} {apos cpos : Pos} (hu : X.A.units + 64 < cLine) (ho : SE X W o mo) (he : SE X W e me)
    (m : M1 X o "get" apos e cpos := by exact ⟨rfl, rfl, rfl, rfl⟩) : SE X W (.Call (.Attribute o "get" apos) [e] [] cpos) (mGet1 mo me) :=
  (pe_dget1 (by omega) ho he m).impF fun σ H Q ⟨μ, S, sd, hs, hl, h⟩ => tE_bind hs hl h fun d S1 μ1 x H1 s1 l1 u1 r1 h1 => by
    split at h1
    · rename_i p ed
      obtain ⟨a, rfl, hd⟩ := isD_of s1 r1 ed
      refine ⟨a, rfl, hd, tE_bind s1 l1 h1 fun k S2 μ2 y H2 s2 l2 u2 r2 h2 => ?_⟩
      split at h2
      · rename_i n kvs k' e1 e2
        obtain ⟨_, b, ws, eb, en, hp, kr⟩ := dicD_ok s2 (r1.up u2) e1
        cases eb
        refine ⟨valV ws k', ?_, h2 _ H2 μ2 .refl s2 (getD_rep kr .non)⟩
        rw [keyD_ok r2 e2]
        exact DGet.k hp
      · exact h2.elim
    · exact h1.elim
end
end Fx
namespace Fx
open PySem PySem.Spec PyProof.Rows L2
/-! ### dict displays -/
abbrev MP := List (ME × ME)
def mPairs : MP → Sl → List Cell → Res (List (D × D))
  | [], _, S => .ok [] S
  | (a, b) :: r, sd, S => (a sd S).bind fun d S1 => (b sd S1).bind fun e S2 => (mPairs r sd S2).bind fun l S3 => .ok ((d, e) :: l) S3
def keysD : List (D × D) → Option (List (Key × D))
  | [] => some []
  | (d, e) :: r => (keyD d).bind fun k => (keysD r).map fun l => (k, e) :: l
def mDict (ps : MP) : ME := fun sd S => (mPairs ps sd S).bind fun l S1 => match keysD l with
  | some kvs => if kvs.length ≤ 15 then .ok (.loc S1.length) (S1 ++ [.dic (mergeD [] kvs)]) else .stk
  | none => .stk
inductive RepP (K : PySem.W.Frag) (μ : Mu) (H : Hp) : List (D × D) → List (V × V) → Prop
  | nil : RepP K μ H [] []
  | cons {d e : D} {v w : V} {ds : List (D × D)} {vs : List (V × V)} : RepV K μ H d v → RepV K μ H e w → RepP K μ H ds vs → RepP K μ H ((d, e) :: ds) ((v, w) :: vs)
theorem RepP.up {K : PySem.W.Frag} {μ μ' : Mu} {H H' : Hp} {ds : List (D × D)} {vs : List (V × V)} (r : RepP K μ H ds vs) (u : Up μ H μ' H') : RepP K μ' H' ds vs := by
  induction r with
  | nil => exact .nil
  | cons a b _ ih => exact .cons (a.up u) (b.up u) ih
theorem keysD_ok {K : PySem.W.Frag} {μ : Mu} {H : Hp} {ds : List (D × D)} {vs : List (V × V)} (r : RepP K μ H ds vs) : ∀ {kvs : List (Key × D)}, keysD ds = some kvs → ∃ ws : List (Key × V), vs = ws.map (fun kv => (kV kv.1, kv.2)) ∧ KR K μ H kvs ws := by
  induction r with
  | nil => intro kvs h; cases h; exact ⟨[], rfl, .nil⟩
  | cons a b _ ih =>
    intro kvs h
    obtain ⟨k, e1, e2⟩ := Option.bind_eq_some_iff.mp h
    obtain ⟨l, e3, rfl⟩ := Option.map_eq_some_iff.mp e2
    obtain ⟨ws, e4, kr⟩ := ih e3
    refine ⟨(k, _) :: ws, ?_, .cons b kr⟩
    rw [e4, keyD_ok a e1]
    rfl
section
variable {X : Cx} {W : WX}
def trsOf (X : Cx) (W : WX) (ms : MP) : List (TE × TE) := ms.map fun p => (tE X W p.1, tE X W p.2)
inductive PPm (X : Cx) (W : WX) : List (Option Expr) → List Expr → MP → Prop
  | nil : PPm X W [] [] []
  | cons {k v : Expr} {ks : List (Option Expr)} {vs : List Expr} {a b : ME} {r : MP} (hk : SE X W k a) (hv : SE X W v b) (hr : PPm X W ks vs r) : PPm X W (some k :: ks) (v :: vs) ((a, b) :: r)
theorem PPm.pps {ks : List (Option Expr)} {vs : List Expr} {ms : MP} {pos : Pos} (h : PPm X W ks vs ms) : PPs X pos ks vs (trsOf X W ms) := by
  induction h with
  | nil => exact pps_nil
  | cons hk hv _ ih => exact pps_cons hk hv ih
theorem PPm.shape {ks : List (Option Expr)} {vs : List Expr} {ms : MP} (h : PPm X W ks vs ms) : ks.all (·.isSome) = true ∧ ks.length = vs.length := by
  induction h with
  | nil => exact ⟨rfl, rfl⟩
  | cons hk hv _ ih => exact ⟨by rw [List.all_cons, ih.1]; rfl, congrArg (· + 1) ih.2⟩
theorem tPairs_of {α : Type} {δ : Type} {Rep' : Mu → Hp → α → δ → Prop} : ∀ (ms : MP) {f : List (D × D) → List Cell → Res α} {σ : St} {H : Hp} {μ : Mu} {S : List Cell} {sd : Sl} {Q : δ → Hp → Prop} {Q' : List (V × V) → Hp → Prop}, StoRep X.mg X.K μ S H → SlRep X.K μ H sd σ →
    FinA X.mg X.K Rep' (fun c d H' => W c d σ H') μ H ((mPairs ms sd S).bind f) Q →
    (∀ l S' μ' vs H', StoRep X.mg X.K μ' S' H' → SlRep X.K μ' H' sd σ → Up μ H μ' H' → RepP X.K μ' H' l vs → FinA X.mg X.K Rep' (fun c d H' => W c d σ H') μ' H' (f l S') Q → Q' vs H') → tPairs (trsOf X W ms) σ H Q'
  | [], f, σ, H, μ, S, sd, Q, Q', hs, hl, h, k => k [] S μ [] H hs hl .refl .nil h
  | (a, b) :: r, f, σ, H, μ, S, sd, Q, Q', hs, hl, h, k => by
    have h : FinA X.mg X.K Rep' (fun c d H' => W c d σ H') μ H ((a sd S).bind fun d S1 => (b sd S1).bind fun e S2 => (mPairs r sd S2).bind fun l S3 => f ((d, e) :: l) S3) Q := by
      have e : (mPairs ((a, b) :: r) sd S).bind f = (a sd S).bind fun d S1 => (b sd S1).bind fun e S2 => (mPairs r sd S2).bind fun l S3 => f ((d, e) :: l) S3 := by
        show ((a sd S).bind _).bind f = _
        cases a sd S with
        | ok d S1 =>
          show ((b sd S1).bind _).bind f = (b sd S1).bind _
          cases b sd S1 with
          | ok e S2 =>
            show ((mPairs r sd S2).bind _).bind f = (mPairs r sd S2).bind _
            cases mPairs r sd S2 <;> rfl
          | exc x S2 => rfl
          | stk => rfl
        | exc x S1 => rfl
        | stk => rfl
      rw [← e]
      exact h
    exact tE_bind hs hl h fun d S1 μ1 v H1 s1 l1 u1 r1 h1 => tE_bind s1 l1 h1 fun e S2 μ2 w H2 s2 l2 u2 r2 h2 => tPairs_of r s2 l2 h2 fun l S3 μ3 vs H3 s3 l3 u3 r3 h3 => k _ S3 μ3 _ H3 s3 l3 ((u1.trans u2).trans u3) (.cons ((r1.up u2).up u3) (r2.up u3) r3) h3
open Classical in
theorem se_dict {ks : List (Option Expr)} {vs : List Expr} {ms : MP} {pos : Pos} (h : PPm X W ks vs ms) (h0 : ks ≠ [] := by exact List.cons_ne_nil _ _) (h15 : ks.length ≤ 15 := by decide) : SE X W (.Dict ks vs pos) (mDict ms) :=
  (pe_disp h.pps h.shape.1 h.shape.2 h0 h15).impF fun σ H Q ⟨μ, S, sd, hs, hl, h⟩ => fun p hp => by
    have h : FinA X.mg X.K (RepV X.K) (fun c d H' => W c d σ H') μ H ((mPairs ms sd S).bind fun l S1 => match keysD l with
      | some kvs => if kvs.length ≤ 15 then .ok (.loc S1.length) (S1 ++ [.dic (mergeD [] kvs)]) else .stk
      | none => .stk) Q := h
    generalize hr : mPairs ms sd S = r at h
    cases r with
    | stk => exact h.elim
    | exc x S1 =>
      refine tPairs_of (α := Unit) (δ := Unit) (Rep' := fun _ _ _ _ => True) (f := fun _ _ => .stk) (Q := fun _ _ => True) (μ := μ) ms (hs.tmp hp) (hl.up (up_tmp hp)) ?_ fun l S1 μ1 ws H1 s1 l1 u1 r1 h1 => h1.elim
      rw [hr]
      exact fun c dx H' μ' u s e => h c dx H' μ' ((up_tmp hp).trans u) s e
    | ok l0 S0 =>
      refine tPairs_of (α := Unit) (δ := Unit) (Rep' := fun _ _ _ _ => True) (f := fun l S => if l = l0 ∧ S = S0 then .ok () S else .stk) (Q := fun _ _ => True) (μ := μ) ms (hs.tmp hp) (hl.up (up_tmp hp)) ?_ fun l S1 μ1 ws H1 s1 l1 u1 r1 h1 => ?_
      · rw [hr]
        show FinA _ _ _ _ _ _ (if l0 = l0 ∧ S0 = S0 then _ else _) _
        rw [if_pos ⟨rfl, rfl⟩]
        exact fun _ _ _ _ _ _ => True.intro
      have off : p ∉ μ := hs.new hp
      have e1 : H1 p = some (.dK []) := u1.rest p _ upd_same off
      refine ⟨e1, ?_⟩
      split at h1
      · rename_i hq
        obtain ⟨rfl, rfl⟩ := hq
        have h : FinA X.mg X.K (RepV X.K) (fun c d H' => W c d σ H') μ H (match keysD l with
          | some kvs => if kvs.length ≤ 15 then .ok (.loc S1.length) (S1 ++ [.dic (mergeD [] kvs)]) else .stk
          | none => .stk) Q := h
        split at h
        · rename_i kvs ek
          split at h
          · rename_i hz
            obtain ⟨zs, e2, kr⟩ := keysD_ok r1 ek
            refine ⟨zs, e2, by rw [kr.length]; exact hz, ?_⟩
            have hn : p ∉ μ1 := u1.off (b := p) (o := .dK []) upd_same off
            have m1 : ∀ xs, H1 p ≠ some (.tup xs) := fun xs q => by rw [e1] at q; cases q
            have m2 : ∀ o u, H1 p ≠ some (.frz o u) := fun o u q => by rw [e1] at q; cases q
            have upr : UpR μ1 H1 (μ1 ++ [p]) (upd H1 p (.dK (mergeK [] zs))) := {
              mu := fun n a e => by rw [List.getElem?_append_left (List.getElem?_eq_some_iff.mp e).1]; exact e
              tup := fun b xs q => by rw [upd_ne (fun z => m1 xs (by rw [← z]; exact q))]; exact q
              frz := fun b x u q => by rw [upd_ne (fun z => m2 x u (by rw [← z]; exact q))]; exact q }
            have u0 : Up μ H μ1 H1 := (up_tmp hp).trans u1
            have up : Up μ H (μ1 ++ [p]) (upd H1 p (.dK (mergeK [] zs))) := {
              toUpR := u0.toUpR.trans upr
              rest := fun b o q hb => by rw [upd_ne (ne_of_none q hp)]; exact u0.rest b o q hb
              fresh := fun b hb => by
                rcases List.mem_append.mp hb with hb | hb
                · exact u0.fresh b hb
                · rw [List.mem_singleton.mp hb]; exact .inr hp }
            have kr2 := kr.merge (ds := []) (vs := []) .nil
            refine h (.ref p) _ _ up ⟨?_, ?_, fun n c a g1 g2 => ?_⟩ (.loc (by rw [← s1.len]; simp))
            · rw [List.nodup_append]
              refine ⟨s1.nd, by simp, fun x hx y hy e => ?_⟩
              rw [List.mem_singleton] at hy
              subst hy; subst e
              exact hn hx
            · simp [s1.len]
            · by_cases hlt : n < S1.length
              · have g1' : S1[n]? = some c := by rw [← g1, List.getElem?_append_left hlt]
                have g2' : μ1[n]? = some a := by rw [← g2, List.getElem?_append_left (by rw [s1.len]; exact hlt)]
                exact (s1.at_ n c a g1' g2').keep upr (upd_ne fun z => hn (by rw [← z]; exact List.mem_of_getElem? g2'))
              · have hn' : n = S1.length := by
                  have := (List.getElem?_eq_some_iff.mp g1).1
                  simp at this; omega
                subst hn'
                have z1 : Cell.dic (mergeD [] kvs) = c := by simpa using g1
                have z2 : p = a := by
                  have := s1.len
                  rw [← this] at g2; simpa using g2
                subst z1; subst z2
                exact ⟨_, upd_same, kr2.keys, kr2.vals.upR upr⟩
          · exact h.elim
        · exact h.elim
      · exact h1.elim
def mDict0 : ME := fun _ S => .ok (.loc S.length) (S ++ [.dic []])
theorem se_dict0 {pos : Pos} : SE X W (.Dict [] [] pos) mDict0 :=
  pe_dnewK.impF fun σ H Q ⟨μ, S, sd, hs, hl, h⟩ => fun p hp => h (.ref p) _ (μ ++ [p]) (up_new hp) (hs.alloc hp ⟨[], upd_same, rfl, .nil⟩) (.loc (by rw [← hs.len]; simp))
/-- len, of a dict too -/
def oLenA : OC := fun ds S => match ds with
  | [d] => (match dicD S d with | some (_, kvs) => .ok (.int kvs.length) S | none => oLen ds S)
  | _ => .stk
theorem cd_lenA : CallD X W (.builtin "len") oLenA := by
  obtain ⟨r, h1, h2⟩ := cd_len (X := X) (W := W)
  refine ⟨_, h1.or call_lenD, fun σ H μ S ds vs Q hs rl h => ?_⟩
  unfold oLenA at h
  split at h
  · split at h
    · rename_i n kvs ed
      obtain ⟨v, rfl, r1⟩ := rl.one
      obtain ⟨_, a, ws, rfl, _, hp, kr⟩ := dicD_ok hs r1 ed
      exact .inr ⟨a, ws, rfl, hp, by rw [kr.length]; exact h _ H μ .refl hs (.int _)⟩
    · exact .inl (h2 σ H μ S _ vs Q hs rl h)
  · exact h.elim
end
end Fx

namespace PySem
theorem fx_lt_bi (a : Bool) (b : Int) (u : Tok) : Gives (Builtin.«int.__lt__» ⟨[.bool a, .int b u], []⟩) (.val (Value.bool (decide ((if a = true then (1 : Int) else 0) < b)))) :=
  .of_wp fun M A E s Q h => by obtain ⟨hp, g, d, tk, os⟩ := s; wp_walk; exact ⟨_, rfl, h⟩
theorem fx_gt_bi (a : Bool) (b : Int) (u : Tok) : Gives (Builtin.«int.__gt__» ⟨[.bool a, .int b u], []⟩) (.val (Value.bool (decide ((if a = true then (1 : Int) else 0) > b)))) :=
  .of_wp fun M A E s Q h => by obtain ⟨hp, g, d, tk, os⟩ := s; wp_walk; exact ⟨_, rfl, h⟩
section
variable {prog : Program} {w : World} {A : Around} {E : Value → Shared → Prop} {s : Shared}
theorem fx_lt_int_bool {a : Int} {t : Tok} {b : Bool} {Q : Value → Shared → Prop} (h : Q (.bool (decide (a < (if b = true then (1 : Int) else 0)))) s) : wpAny (model prog w) A (compareOp .Lt (.int a t) (.bool b)) Q E s :=
  SeqAt.rc_sub_first_or (op := .Lt) (typeIs_int s a t) rfl (by decide) F.sub_bool_int F.slot_bool_gt_refl (call_gives F.slot_bool_gt_refl rfl F.entry_int_gt (F.args_int_gt_2 _ _) (fx_gt_bi b a t) ⟨nofun, h⟩) (.inl rfl)
theorem fx_lt_bool_int {a : Bool} {b : Int} {u : Tok} {Q : Value → Shared → Prop} (h : Q (.bool (decide ((if a = true then (1 : Int) else 0) < b))) s) : wpAny (model prog w) A (compareOp .Lt (.bool a) (.int b u)) Q E s :=
  SeqAt.rc_left_or (op := .Lt) rfl (typeIs_int s b u) (by decide) F.sub_int_bool F.slot_bool_lt (call_gives F.slot_bool_lt rfl F.entry_int_lt (F.args_int_lt_2 _ _) (fx_lt_bi a b u) ⟨nofun, h⟩) (.inl rfl)
end
end PySem
namespace Fx
open PySem PySem.Spec PyProof.Rows L2
section
variable {X : Cx} {W : WX}
def bi (b : Bool) : Int := if b = true then 1 else 0
def oLtB : O2 := fun d e S => match d, e with
  | .int i, .bl b => .ok (.bl (decide (i < bi b))) S
  | .bl b, .int i => .ok (.bl (decide (bi b < i))) S
  | _, _ => oLt d e S
theorem op_ltB : OpR X (compareOp .Lt) (fun x y H Q => (∃ i b, x = .int i ∧ y = .bl b ∧ Q (.bl (decide (i < bi b))) H) ∨ ∃ i b, x = .bl b ∧ y = .int i ∧ Q (.bl (decide (bi b < i))) H) := by
  intro pins s σ H x y v u Q I rx ry h
  rcases h with ⟨i, b, rfl, rfl, q⟩ | ⟨i, b, rfl, rfl, q⟩
  · obtain ⟨t, rfl⟩ := rx
    obtain rfl : u = Value.bool b := ry
    exact fx_lt_int_bool ⟨.bl _, H, I, rfl, q⟩
  · obtain ⟨t, rfl⟩ := ry
    obtain rfl : v = Value.bool b := rx
    exact fx_lt_bool_int ⟨.bl _, H, I, rfl, q⟩
theorem od_ltB : OpD X W (compareOp .Lt) oLtB := by
  obtain ⟨r, h1, h2⟩ := od_lt (X := X) (W := W)
  refine ⟨_, h1.or op_ltB, fun σ H μ S d e x y Q hs rx ry h => ?_⟩
  unfold oLtB at h
  split at h
  · cases rx; cases ry
    exact .inr (.inl ⟨_, _, rfl, rfl, h _ H μ .refl hs (.bl _)⟩)
  · cases rx; cases ry
    exact .inr (.inr ⟨_, _, rfl, rfl, h _ H μ .refl hs (.bl _)⟩)
  · exact .inl (h2 σ H μ S d e x y Q hs rx ry h)
end
end Fx

namespace Fx
open PySem PySem.Spec PyProof.Rows L2
/-! ### {True: x, False: y}[e] -/
def bkIs : Bool → Value → Bool
  | b, .bool c => b == c
  | _, _ => false
theorem bkIs_shape {b : Bool} {v : Value} (h : bkIs b v = true) : v = .bool b := by
  cases v <;> simp_all [bkIs]
def bKind (prog : Program) (w : World) : KeyKind prog w Bool where
  is := bkIs
  hash := PpSet.hB
  inj := fun v a b ha hb => by
    have e1 := bkIs_shape ha
    have e2 := bkIs_shape hb
    rw [e1] at e2
    cases e2
    rfl
  byValue := fun k v h => by rw [bkIs_shape h]; rfl
  pyHash := fun hv h => by rw [bkIs_shape hv]; exact PpSet.pyHash_bool h
  eqBool := fun {A E s a b u v Q} hu hv h => (by
    rw [bkIs_shape hu, bkIs_shape hv]
    refine SeqAt.EqAt.bool_bool a b _ _ _ _ ?_
    have e : (a == b) = decide (a = b) := by cases a <;> cases b <;> rfl
    rw [e]
    exact h)
  «strs» := fun k x t v h => by cases h
def BD (P : Program) (w : World) (p : Addr) (kvs : List (Bool × V)) : HO := .ext fun h => (p == sysModules) = false ∧ ∃ vs, KV kvs vs ∧ h.DictOf (bKind P w) p vs
section
variable {P : Program} {w : World} {H : Hp} {h : Heap} {p : Addr}
theorem bd_ok {kvs : List (Bool × V)} {vs : List (Bool × Value)} (hd : (p == sysModules) = false) (r : KV kvs vs) (d : h.DictOf (bKind P w) p vs) : ObjOk P w H h p (BD P w p kvs) := by
  refine ⟨⟨hd, vs, r, d⟩, let ⟨o, _, _, e, _⟩ := d; ⟨o, e⟩, fun h1 h2 q k => ?_⟩
  obtain ⟨q1, q2, q3, o, es, ep, e, q4⟩ := q
  exact ⟨q1, q2, q3, o, es, ep, k o e, q4⟩
theorem bd_at {kvs : List (Bool × V)} (hok : HOk P w H h) (e : H p = some (BD P w p kvs)) : (p == sysModules) = false ∧ ∃ vs, KV kvs vs ∧ h.DictOf (bKind P w) p vs := by
  have x : ObjOk P w H h p (.ext fun h => (p == sysModules) = false ∧ ∃ vs, KV kvs vs ∧ h.DictOf (bKind P w) p vs) := hok p _ e
  exact x.1
end
section
variable {X : Cx} {W : WX}
theorem pe_bdisp {x y : Str} {j1 j2 j3 j4 p1 p2 p3 p4 pos} : PE X (.Dict [some (.Constant (.bool true) j1 p1), some (.Constant (.bool false) j2 p2)] [.Constant (.str x) j3 p3, .Constant (.str y) j4 p4] pos)
    (fun σ H Q => ∀ p, H p = none → Q (.ref p) (upd H p (BD X.prog X.w p [(true, .str x), (false, .str y)]))) := by
  refine ⟨fun pins s σ H Q I q => ?_⟩
  have hn := I.hok.fresh (Nat.le_refl s.heap.objs.size)
  have hsm : (s.heap.objs.size == sysModules) = false := beq_eq_false_iff_ne.mpr (Ne.symm (Nat.ne_of_lt I.big))
  have new : ObjOk X.prog X.w (upd H s.heap.objs.size (BD X.prog X.w s.heap.objs.size [])) (s.heap.push { cls := .type "dict", data := .dict #[] }) s.heap.objs.size (BD X.prog X.w s.heap.objs.size []) := bd_ok hsm .nil (Heap.DictOf.new s.heap)
  have I1 := I.laid (a := s.heap.objs.size) (o := BD X.prog X.w s.heap.objs.size []) (h' := s.heap.push { cls := .type "dict", data := .dict #[] }) (t' := s.toks) (fun _ _ z => Heap.get?_push_of_some _ z) (Nat.le_refl _) new
  have PP : PPs X pos [some (.Constant (.bool true) j1 p1), some (.Constant (.bool false) j2 p2)] [.Constant (.str x) j3 p3, .Constant (.str y) j4 p4] _ := pps_cons pe_bl pe_str (pps_cons pe_bl pe_str pps_nil)
  refine wpAny_Dict_walk (knd := bKind X.prog X.w) rfl rfl (List.cons_ne_nil _ _) (show 2 ≤ 15 by decide) (thn (PP.run pins _ σ _ (fun ps H2 => ps = [(.bl true, .str x), (.bl false, .str y)] ∧ H2 = upd H s.heap.objs.size (BD X.prog X.w s.heap.objs.size [])) I1 ⟨rfl, rfl⟩) fun ws s2 ⟨ps, H2, I2, rel, e1, e2⟩ => ?_)
  subst e1 e2
  obtain ⟨u1, u2, t1, t2, rfl⟩ : ∃ (u1 u2 : Value) (t1 t2 : Tok), ws = [(.bool true, .str x t1), (.bool false, .str y t2)] := by
    cases rel with
    | @cons _ a1 _ _ g1 r2 =>
      cases r2 with
      | @cons _ a2 _ _ g2 r3 =>
        cases r3
        obtain ⟨b1, t1, c1⟩ := g1
        obtain ⟨b2, t2, c2⟩ := g2
        obtain ⟨k1, v1⟩ := a1
        obtain ⟨k2, v2⟩ := a2
        have b1 : k1 = .bool true := b1
        have b2 : k2 = .bool false := b2
        have c1 : v1 = .str x t1 := c1
        have c2 : v2 = .str y t2 := c2
        subst b1 b2 c1 c2
        exact ⟨.none, .none, t1, t2, rfl⟩
  obtain ⟨_, vs0, r0, dd⟩ := bd_at I2.hok upd_same
  cases r0
  refine ⟨[(true, .str x t1), (false, .str y t2)], ⟨rfl, rfl, rfl, rfl, True.intro⟩, dd, fun h' dd' hs => ⟨.ref s.heap.objs.size, _, ?_, rfl, q _ hn⟩⟩
  have he : ∃ q, h'.get? s.heap.objs.size = some q := let ⟨q, _, _, hq, _⟩ := dd'; ⟨q, hq⟩
  have J := d_write (a := s.heap.objs.size) (ob := BD X.prog X.w s.heap.objs.size [(true, .str x), (false, .str y)]) (t' := s2.toks + 2) I2 (by rw [upd_same]; exact True.intro) hs he (bd_ok hsm (.cons ⟨rfl, t1, rfl⟩ (.cons ⟨rfl, t2, rfl⟩ .nil)) dd')
  rw [upd_upd] at J
  exact J
theorem ix_bd : IxR X (fun x y H Q => ∃ a kvs b v, x = .ref a ∧ y = .bl b ∧ H a = some (BD X.prog X.w a kvs) ∧ valV kvs b = some v ∧ Q v H) := by
  intro value slice pins s σ H x y v u Q I rx ry ⟨a, kvs, b, w, ex, ey, e, hv, q⟩ hs
  subst ex ey
  obtain rfl : v = Value.ref a := rx
  obtain rfl : u = Value.bool b := ry
  obtain ⟨_, vs, r, dd⟩ := bd_at I.hok e
  obtain ⟨w', hw, rw'⟩ := RelO.some_of (v := w) (o := valueAt vs b) (by rw [← hv]; exact r.val b)
  exact PyProof.Rows.tail_any dd.typeIs PySem.F.slot_dict_getitem.lookup (wpAny_getItem_of (knd := bKind X.prog X.w) (k := b) (by show bkIs b (.bool b) = true; simp [bkIs]) dd.mapOf hw ⟨w, H, I.tok _, rw', q⟩) hs
def mBoolD (x y : List Nat) (m : ME) : ME := fun sd S => (m sd S).bind fun d S1 => match d with
  | .bl b => .ok (.str (if b = true then x else y)) S1
  | _ => .stk
theorem se_boolD {x y : Str} {e : Expr} {m : ME} {j1 j2 j3 j4 p1 p2 p3 p4 pos pos'} (he : SE X W e m) (hp : PlainIx e := by intro _ _; rfl) :
    SE X W (.Subscript (.Dict [some (.Constant (.bool true) j1 p1), some (.Constant (.bool false) j2 p2)] [.Constant (.str x) j3 p3, .Constant (.str y) j4 p4] pos) e pos') (mBoolD x.cps.toList y.cps.toList m) :=
  (pe_ix ix_bd pe_bdisp he hp).impF fun σ H Q ⟨μ, S, sd, hs, hl, h⟩ => fun p hpn => by
    refine tE_bind (hs.tmp hpn) (hl.up (up_tmp hpn)) (FinA.up (up_tmp hpn) h) fun d S1 μ1 v H1 s1 l1 u1 r1 h1 => ?_
    have e1 : H1 p = some (BD X.prog X.w p [(true, .str x), (false, .str y)]) := u1.rest p _ upd_same (hs.new hpn)
    cases r1 with
    | bl b =>
      cases b with
      | true => exact ⟨p, _, true, .str x, rfl, rfl, e1, rfl, h1 _ H1 μ1 .refl s1 (rep_str x)⟩
      | false => exact ⟨p, _, false, .str y, rfl, rfl, e1, rfl, h1 _ H1 μ1 .refl s1 (rep_str y)⟩
    | _ => exact h1.elim
end
end Fx

namespace Fx
open PySem PySem.Spec PyProof.Rows L2
/-! ### an own exception class as the top has written it -/
/-- the __init__ of a class statement: its first statement -/
def clsInit (s : Stmt) : Stmt := match s with
  | .ClassDef _ _ _ b _ _ _ _ _ _ _ => b.getD 0 (.Pass ⟨0, 0, 0, 0⟩)
  | _ => .Pass ⟨0, 0, 0, 0⟩
structure ExcAt (P : Program) (K : PySem.W.Frag) (mg : Str → Option Value) (x : String) (qual : Str) (st : Stmt) (C fI : Addr) (fd : FuncData) : Prop where
  m : mg (Str.ofString x) = some (.ref C)
  i : ∃ cc cdv, InitF P K mg qual st (defScope st).names fI cc C cdv fd
  o : OexC K C
  iC : PySem.W.findIn K (.ref C) "__init__" = some (some (.ref fI))
  tI : PySem.W.typeIn K (.ref fI) = some (.type "function")
  fI : PySem.W.fnIn K fI = true
  hp : PySem.W.findIn K (.ref C) "place" = some none
  hn : PySem.W.findIn K (.ref C) "name" = some none
  xf : XfC K C
  thi : PySem.W.nsIn K cStatics "thirdparty.any" = some none
  ve : PySem.W.subIn K (.ref C) (.type "ValueError") = some true
theorem excAt_mk {P : Program} {K : PySem.W.Frag} {h : Heap} {mg : Str → Option Value} {x : String} {qual : Str} {st : Stmt} {C fI cc cda N : Addr} {nm' qn : Str} {bs bm : List Value} {sn : List Str} {sub : List Value} {ab : Bool} {col : Option Bool} {dd : Option Addr} {k0 k1 k2 k3 k5 : Option Value}
    {oc kV doc pm ct ccl cl : Value} {od an cdd cld : Option Addr} {osl ccs csl : Array (Option Value)} {vs : Array Value} {file : Str} {tf : Tok} {cd : ClassData}
    (X : K.In h) (G : h.Ns mainGlobals mg)
    (a : PySem.W.nsIn K mainGlobals (Str.ofString x) = some (some (.ref C)))
    (l : K.lookup C = some (excClassObj nm' qn C N bs bm true sn sub ab col dd k0 k1 k2 k3 k5 "ValueError.__new__"))
    (rv : PySem.HandSPX.refsVE bm = true)
    (sa : PySem.W.findIn K (.ref C) "__setattr__" = some (some (.builtin "object.__setattr__")))
    (be : PySem.W.subIn K (.ref C) (.type "BaseException") = some true)
    (ty : PySem.W.typeIn K (.ref C) = some (.type "type"))
    (kp : PySem.W.keepIn K (.ref C) = true)
    (iC : PySem.W.findIn K (.ref C) "__init__" = some (some (.ref fI)))
    (tI : PySem.W.typeIn K (.ref fI) = some (.type "function"))
    (fn : PySem.W.fnIn K fI = true)
    (lf : K.lookup fI = some ⟨oc, od, .func (PySem.W.fnX "__init__" qual (defArgs st) (defBody st) (scO (defScope st).names) [("__class__", cc)] .none kV doc pm an (.ref cda) ct), osl⟩)
    (co : PySem.W.codeIn K (.ref cda) qual = true)
    (lc : K.lookup cda = some ⟨ccl, cdd, .fields vs, ccs⟩) (vf : vs[2]? = some (.str file tf)) (pf : ((P.main.file : Str) == file) = true)
    (lcc : K.lookup cc = some ⟨cl, cld, .cell (some (.ref C)), csl⟩)
    (lcl : PySem.W.clsIn K C = some cd)
    (zs : PySem.W.nsIn K mainGlobals "super" = some none)
    (tp : (P.main.scope.names.lookup ("super" : Str)).isSome = false)
    (par : ((defArgs st).posonlyargs ++ (defArgs st).args).map (·.arg) = ([("self" : Str), "place"] : List Str))
    (scp : defScope st = scO (defScope st).names) (s1 : (defScope st).names.lookup ("super" : Str) = some .globalImplicit) (s2 : (defScope st).names.lookup ("__class__" : Str) = some .free)
    (s3 : (defScope st).names.lookup ("self" : Str) = some .local) (s4 : (defScope st).names.lookup ("place" : Str) = some .local)
    (nc : ∀ y ∈ (defScope st).names, y.2 ≠ .cell) (nf : ∀ y ∈ (defScope st).names, y.2 = .free → y.1 = "__class__")
    (hp : PySem.W.findIn K (.ref C) "place" = some none) (hn : PySem.W.findIn K (.ref C) "name" = some none)
    (ga : PySem.W.findIn K (.ref C) "__getattribute__" = some (some (.builtin "BaseException.__getattribute__"))) (gg : PySem.W.findIn K (.ref C) "__getattr__" = some none) (hd : PySem.W.hasDictIn K C = true)
    (thi : PySem.W.nsIn K cStatics "thirdparty.any" = some none) (ve : PySem.W.subIn K (.ref C) (.type "ValueError") = some true) :
    ExcAt P K mg x qual st C fI (PySem.W.fnX "__init__" qual (defArgs st) (defBody st) (scO (defScope st).names) [("__class__", cc)] .none kV doc pm an (.ref cda) ct) where
  m := PySem.W.mg_of X G a
  i := ⟨cc, .ref cda, { ex := ⟨oc, od, kV, doc, pm, an, ct, osl, rfl, lf, co⟩, cod := ⟨cda, ccl, cdd, vs, ccs, file, tf, rfl, lc, vf, pf⟩, cel := ⟨cl, cld, csl, lcc⟩, cls := ⟨cd, lcl⟩, sup := PySem.W.mg_none_of X G zs, top := tp, par := par, scp := ⟨scp, True.intro, True.intro, s1, s2, s3, s4⟩, nocell := nc, nofree := nf }⟩
  o := ⟨⟨nm', qn, N, bs, bm, sn, sub, ab, col, dd, k0, k1, k2, k3, k5, l, rv⟩, sa, be, ty, kp⟩
  iC := iC
  tI := tI
  fI := fn
  hp := hp
  hn := hn
  xf := ⟨ga, gg, be, hd⟩
  thi := thi
  ve := ve
section
variable {K : PySem.W.Frag} {C D E N : Addr} {cd : ClassData} {rest : List Value}
/-- super() finds a class of the text -/
theorem sup_own {oc : Value} {od : Option Addr} {cdE : ClassData} {sl : Array (Option Value)} {v : Value} (h1 : PySem.W.clsIn K C = some cd) (hm : (cd.mro.dropWhile (· != .ref D)).drop 1 = .ref E :: rest) (l : K.lookup E = some ⟨oc, od, .cls cdE, sl⟩)
    (n : PySem.W.nsIn K cdE.ns "__init__" = some (some v)) : PySem.W.ks_superIn K C D "__init__" = some (some v) := by
  unfold PySem.W.ks_superIn
  rw [h1, Option.bind_some, hm]
  unfold PySem.W.alongIn
  have e : PySem.W.ownIn K "__init__" (.ref E) = some (some v) := by
    unfold PySem.W.ownIn
    simp only [l]
    exact n
  rw [e]
/-- super() finds ValueError -/
theorem sup_ve (h1 : PySem.W.clsIn K C = some cd) (hm : (cd.mro.dropWhile (· != .ref D)).drop 1 = .type "ValueError" :: rest) : PySem.W.ks_superIn K C D "__init__" = some (some (.builtin "ValueError.__init__")) := by
  unfold PySem.W.ks_superIn
  rw [h1, Option.bind_some, hm]
  unfold PySem.W.alongIn
  have e : PySem.W.ownIn K "__init__" (.type "ValueError") = some (some (.builtin "ValueError.__init__")) := by
    unfold PySem.W.ownIn
    first | kernel_rfl | rfl | decide +kernel
  rw [e]
theorem exm_mk {cls : Value} {b : Bool} (h1 : PySem.W.subIn K (.ref C) (.type "BaseException") = some true) (h2 : PySem.W.clsIn K C = some cd) (h3 : PySem.W.typeIn K (.ref C) = some (.type "type")) (h4 : PySem.W.subIn K cls (.ref C) = some b) : PySem.W.exmOne K cls (.ref C) = some b := by
  unfold PySem.W.exmOne
  rw [if_pos (by rw [h1]; rfl)]
  unfold PySem.W.kitCls
  simp only
  rw [if_pos (by rw [h2, h3]; rfl)]
  exact h4
end
end Fx

namespace Fx
open PySem PySem.Spec PyProof.Rows L2
/-! ### clauses in short -/
/-- the class n stands in the text, and the table tells which classes it catches -/
def Catches (K : PySem.W.Frag) (mg : Str → Option Value) (tab : Tab) (n : String) : Prop := ∃ c, mg (Str.ofString n) = some c ∧ ∀ y b, tab y n = some b → ∀ C, mg (Str.ofString y) = some (.ref C) → PySem.W.exmOne K (.ref C) c = some b
section
variable {X : Cx} {W : WX} {tab : Tab}
theorem hs0 : ∃ l, HsOk X tab [] [] l := ⟨[], .nil⟩
theorem hsO {n : String} {m : MH} {st : Stmt} {su : List Stmt} {p p' : Pos} {hl : List ExceptHandler} {hs : List HCl} (hc : Catches X.K X.mg tab n)
    (hsu : ∀ a oe cls d pn, Zc cls d oe → (∃ vs, oe.data = .fields vs) → PSs (X.suite a ((a, oe) :: pn)) (st :: su) (tHd X.mg X.K none m a cls d)) (r : ∃ l, HsOk X tab hl hs l) (hg : Gl X (Str.ofString n) := by rfl) (hd : ((Str.ofString n) == ("__debug__" : Str)) = false := by decide) :
    ∃ l, HsOk X tab (.ExceptHandler (some (.Name (Str.ofString n) p)) none (st :: su) p' :: hl) ((n, none, m) :: hs) l := by
  obtain ⟨c, h1, h2⟩ := hc
  obtain ⟨l, r⟩ := r
  exact ⟨_, .only (n := n) (c := c) ⟨hg, hd, .inl h1⟩ h2 hsu r⟩
theorem hsN {n : String} {v : Str} (i : Nat) {m : MH} {st : Stmt} {su : List Stmt} {p p' : Pos} {hl : List ExceptHandler} {hs : List HCl} (hc : Catches X.K X.mg tab n)
    (hsu : ∀ a oe cls d pn, Zc cls d oe → (∃ vs, oe.data = .fields vs) → PSs (X.suite a ((a, oe) :: pn)) (st :: su) (tHd X.mg X.K (some i) m a cls d)) (r : ∃ l, HsOk X tab hl hs l) (hi : X.N[i]? = some v := by rfl) (hk : X.env.kindOf v = some .local := by rfl)
    (hg : Gl X (Str.ofString n) := by rfl) (hd : ((Str.ofString n) == ("__debug__" : Str)) = false := by decide) :
    ∃ l, HsOk X tab (.ExceptHandler (some (.Name (Str.ofString n) p)) (some v) (st :: su) p' :: hl) ((n, some i, m) :: hs) l := by
  obtain ⟨c, h1, h2⟩ := hc
  obtain ⟨l, r⟩ := r
  exact ⟨_, .named (n := n) (c := c) ⟨hg, hd, .inl h1⟩ h2 hi hk hsu r⟩
theorem ss_tryE {body : List Stmt} {hd : ExceptHandler} {hl : List ExceptHandler} {hs : List HCl} {mb : MS} {pos : Pos} (hS : X.stack = X.env :: X.outer) (hF : X.env.frame = some X.env.locals) (hN : X.N.Nodup) (tk : Takes X W)
    (hb : ∀ (W : WX) (pn : List (Addr × Obj)) (xe : Value → Shared → Prop), Takes (X.tr pn xe) W → PassesOwn (model X.prog X.w) X.A X.env xe → SB (X.tr pn xe) W body mb)
    (hh : ∃ l, HsOk X tab (hd :: hl) hs l) : SS X W (.Try body (hd :: hl) [] [] pos) (mTry tab mb hs) := by
  obtain ⟨l, h⟩ := hh
  exact ss_try hS hF hN tk hb h
end
theorem ofString_inj {a b : String} (h : Str.ofString a = Str.ofString b) : a = b := by
  rw [Str.ofString_eq_toList, Str.ofString_eq_toList] at h
  have e : (a.toList.map Char.toNat).toArray = (b.toList.map Char.toNat).toArray := congrArg Str.cps h
  have e2 : a.toList.map Char.toNat = b.toList.map Char.toNat := by simpa using e
  have inj : ∀ {l m : List Char}, l.map Char.toNat = m.map Char.toNat → l = m := by
    intro l
    induction l with
    | nil => intro m h; cases m with | nil => rfl | cons _ _ => cases h
    | cons c l ih =>
      intro m h
      cases m with
      | nil => cases h
      | cons d m =>
        have h1 := (List.cons.inj h).1
        have h2 := ih (List.cons.inj h).2
        have : c = d := by
          apply Char.ext
          exact UInt32.toNat_inj.mp h1
        rw [this, h2]
  exact String.toList_inj.mp (inj e2)
end Fx

namespace Fx
open PySem PySem.Spec PyProof.Rows L2
/-! ### T.get(e, f), T a dict of texts of the module -/
abbrev TabT := List (List Nat × List Nat)
def lookT (tab : TabT) (z : List Nat) : Option (List Nat) := (tab.find? fun p => p.1 == z).map (·.2)
def KTab (K : PySem.W.Frag) (w : World) (mg : Str → Option Value) (x : Str) (tab : TabT) : Prop := ∃ a es n, mg x = some (.ref a) ∧ K.lookup a = some ⟨.type "dict", none, .dict es n, #[]⟩ ∧ PySem.W.KeysLit w.params es.toList ∧ (a == sysModules) = false ∧
  ∀ z : List Nat, (∀ v, lookT tab z = some v → ∃ t, findBy Value.isStrOf es (stS z) = some (.str (stS v) t)) ∧ (lookT tab z = none → findBy Value.isStrOf es (stS z) = none)
def mKget (tab : TabT) (e f : ME) : ME := fun sd S => (e sd S).bind fun d S1 => (f sd S1).bind fun z S2 => match d with
  | .str x => (match lookT tab x with | some v => .ok (.str v) S2 | none => .ok z S2)
  | _ => .stk
section
variable {X : Cx} {W : WX}
theorem pe_kget {x : Str} {tab : TabT} {e f : Expr} {ty tx : TE} {p apos cpos : Pos} (T : KTab X.K X.w X.mg x tab) (he : PE X e ty) (hf : PE X f tx) (m : M2 X (.Name x p) "get" apos e f cpos) (hg : Gl X x) (hdb : (x == ("__debug__" : Str)) = false) :
    PE X (.Call (.Attribute (.Name x p) "get" apos) [e, f] [] cpos) (fun σ H Q => ty σ H fun y H2 => tx σ H2 fun z H3 => ∃ k, y = .str (stS k) ∧ (match lookT tab k with | some v => Q (.str (stS v)) H3 | none => Q z H3)) := by
  obtain ⟨a, es, n, hm, hl, hk, hs, ht⟩ := T
  refine ⟨fun pins s σ H Q I h => ?_⟩
  refine wpAny_Call_method m.base m.few m.line PySem.F.plainAttrs_dict PySem.F.slot_dict_get PySem.F.type_dict_get (ld_glob I hg hm ?_ hdb)
  have mp0 := PySem.W.mapOf_K (prog := X.prog) (w := X.w) I.kIn hl hk
  refine ⟨mp0.typeIs, mp0.noDict, ?_⟩
  rw [m.trees]
  refine Calls.callWith_builtin rfl (Calls.evalArgs_plain (Calls.spliced_cons (thn (he.run pins s σ H _ I h) fun iv s2 ⟨y, H2, I2, ry, q2⟩ =>
    Calls.spliced_cons (thn (hf.run pins s2 σ H2 _ I2 q2) fun fv s3 ⟨z, H3, I3, rz, k, ey, q3⟩ => Calls.spliced_nil ?_))))
  subst ey
  obtain ⟨t, rfl⟩ := (show ∃ t, iv = Value.str (stS k) t from ry)
  have mp := PySem.W.mapOf_K (prog := X.prog) (w := X.w) I3.kIn hl hk
  refine call_meetsIn PySem.F.slot_dict_get mp.typeIs PySem.F.entry_dict_get (PySem.F.args_dict_get_3 _ _ _) (meets_dict_get_default (strKind X.prog X.w) a (strKind_is X.prog X.w (stS k) t) hs fv) ⟨_, mp, ?_⟩
  obtain ⟨h1, h2⟩ := ht k
  cases hq : lookT tab k with
  | some v =>
    obtain ⟨t', e'⟩ := h1 v hq
    rw [hq] at q3
    show EP X pins σ Q ((findBy Value.isStrOf es (stS k)).getD fv) _
    rw [e']
    exact ⟨.str (stS v), H3, I3.tok _, ⟨t', rfl⟩, q3⟩
  | none =>
    rw [hq] at q3
    show EP X pins σ Q ((findBy Value.isStrOf es (stS k)).getD fv) _
    rw [h2 hq]
    exact ⟨z, H3, I3.tok _, rz, q3⟩
theorem se_kget {x : Str} {tab : TabT} {e f : Expr} {me mf : ME} {p apos cpos : Pos} (T : KTab X.K X.w X.mg x tab) (he : SE X W e me) (hf : SE X W f mf) (m : M2 X (.Name x p) "get" apos e f cpos := by exact ⟨rfl, rfl, rfl, rfl⟩) (hg : Gl X x := by rfl) (hdb : (x == ("__debug__" : Str)) = false := by decide) :
    SE X W (.Call (.Attribute (.Name x p) "get" apos) [e, f] [] cpos) (mKget tab me mf) :=
  (pe_kget T he hf m hg hdb).impF fun σ H Q ⟨μ, S, sd, hs, hl, h⟩ => tE_bind hs hl h fun d S1 μ1 v H1 s1 l1 u1 r1 h1 => tE_bind s1 l1 h1 fun z S2 μ2 w H2 s2 l2 u2 r2 h2 => by
    cases r1 with
    | str k =>
      refine ⟨k, rfl, ?_⟩
      have h2 : FinA X.mg X.K (RepV X.K) (fun c d H' => W c d σ H') μ2 H2 (match lookT tab k with | some v => .ok (.str v) S2 | none => .ok z S2) Q := h2
      cases hq : lookT tab k with
      | some v => rw [hq] at h2; exact h2 _ H2 μ2 .refl s2 (.str v)
      | none => rw [hq] at h2; exact h2 _ H2 μ2 .refl s2 r2
    | _ => exact h2.elim
end
end Fx

namespace Fx
open PySem PySem.Spec PyProof.Rows L2
/-! ### the newer mirrors, evaluated -/
section
variable {S : List Cell}
@[simp] theorem dicD_tup (l : List D) : dicD S (.tup l) = none := (rfl)
@[simp] theorem dicD_cst (l : List D) : dicD S (.cst l) = none := (rfl)
@[simp] theorem dicD_str (l : List Nat) : dicD S (.str l) = none := (rfl)
@[simp] theorem oIxA_tup (l : List D) (i : Int) : oIxA (.tup l) (.int i) S = optR (atI l i) S := (rfl)
@[simp] theorem oIxA_cst (l : List D) (i : Int) : oIxA (.cst l) (.int i) S = optR (atI l i) S := (rfl)
@[simp] theorem oIxA_str (x : List Nat) (i : Int) : oIxA (.str x) (.int i) S = if x.length ≤ sizeLine then optR ((atI x i).map fun c => .str [c]) S else .stk := (rfl)
@[simp] theorem oIxA_loc (n : Nat) (i : Int) : oIxA (.loc n) (.int i) S = match S[n]? with
  | some (.lst xs) => optR (atI xs i) S
  | some (.dic kvs) => optR (getK kvs (.inl i)) S
  | _ => .stk := by
  show (match dicD S (.loc n) with | some (_, kvs) => optR ((keyD (.int i)).bind fun k => getK kvs k) S | none => oIx (.loc n) (.int i) S) = _
  unfold dicD
  simp only
  cases h : S[n]? with
  | none => simp [oIx, seqD, cellL, h, optR]
  | some c =>
    cases c with
    | lst xs => simp [oIx, seqD, cellL, h, optR]
    | dic kvs => simp [keyD]
    | ins a b => simp [oIx, seqD, cellL, h, optR]
@[simp] theorem oLenA_tup (l : List D) : oLenA [.tup l] S = .ok (.int l.length) S := (rfl)
@[simp] theorem oLenA_cst (l : List D) : oLenA [.cst l] S = .ok (.int l.length) S := (rfl)
@[simp] theorem oLenA_str (x : List Nat) : oLenA [.str x] S = if x.length ≤ sizeLine then .ok (.int x.length) S else .stk := (rfl)
@[simp] theorem oLenA_loc (n : Nat) : oLenA [.loc n] S = match S[n]? with
  | some (.lst xs) => .ok (.int xs.length) S
  | some (.dic kvs) => .ok (.int kvs.length) S
  | _ => .stk := by
  show (match dicD S (.loc n) with | some (_, kvs) => Res.ok (D.int kvs.length) S | none => oLen [.loc n] S) = _
  unfold dicD
  simp only
  cases h : S[n]? with
  | none => simp [oLen, cellL, h]
  | some c =>
    cases c with
    | lst xs => simp [oLen, cellL, h]
    | dic kvs => rfl
    | ins a b => simp [oLen, cellL, h]
@[simp] theorem oIntS_int (i : Int) : oIntS [.int i] S = .ok (.int i) S := (rfl)
@[simp] theorem oIntS_bl (b : Bool) : oIntS [.bl b] S = .ok (.int (if b then 1 else 0)) S := (rfl)
@[simp] theorem oStrC_int (i : Int) : oStrC [.int i] S = if cLog i then .ok (.str (istr i)) S else .stk := (rfl)
@[simp] theorem oStrC_str (x : List Nat) : oStrC [.str x] S = .ok (.str x) S := (rfl)
@[simp] theorem setD_loc (n : Nat) (k : Int) (v : D) : setD (.loc n) (.int k) v S = match S[n]? with
  | some (.lst xs) => (match ixN xs.length k with
    | some j => some (S.set n (.lst (xs.set j v)))
    | none => none)
  | some (.dic kvs) => if kvs.length < sizeLine then some (S.set n (.dic (putKD kvs (.inl k) v))) else none
  | _ => none := by
  cases h : S[n]? with
  | none =>
    have e : dicD S (.loc n) = none := by unfold dicD; simp only [h]
    unfold setD
    rw [e]
    simp only [mlst_ev, h]
  | some c =>
    cases c with
    | lst xs =>
      have e : dicD S (.loc n) = none := by unfold dicD; simp only [h]
      unfold setD
      rw [e]
      simp only [mlst_ev, h]
      all_goals rfl
    | dic kvs =>
      have e : dicD S (.loc n) = some (n, kvs) := by unfold dicD; simp only [h]
      unfold setD
      rw [e]
      rfl
    | ins a b =>
      have e : dicD S (.loc n) = none := by unfold dicD; simp only [h]
      unfold setD
      rw [e]
      simp only [mlst_ev, h]
@[simp] theorem gSubA_ev (o i : ME) (v : D) (sd : Sl) : gSubA o i v sd S = (o sd S).bind fun d S1 => (i sd S1).bind fun e S2 => match setD d e v S2 with | some S3 => .ok sd S3 | none => .stk := (rfl)
@[simp] theorem mRaise_ev (x : String) (ns : List (List Nat)) (m : ME) (sd : Sl) : mRaise x ns m sd S = (m sd S).thenS sd fun d S1 => .exc ⟨x, exFs ns d⟩ sd S1 := (rfl)
@[simp] theorem mJoin_ev (mo me : ME) (sd : Sl) : mJoin mo me sd S = (mo sd S).bind fun d S1 => match d with
  | .str a => (me sd S1).bind fun e S2 => match (seqD S2 e).bind strsD with
    | some ys => if (ys.map List.length).sum + ys.length * a.length ≤ 16777216 then .ok (.str (joinS a ys)) S2 else .stk
    | none => .stk
  | _ => .stk := (rfl)
@[simp] theorem oAddS_int (i j : Int) : oAddS (.int i) (.int j) S = .ok (.int (i + j)) S := (rfl)
@[simp] theorem oAddS_str (x y : List Nat) : oAddS (.str x) (.str y) S = if x.length + y.length ≤ sizeLine then .ok (.str (x ++ y)) S else .stk := (rfl)
@[simp] theorem oLtB_int (i j : Int) : oLtB (.int i) (.int j) S = .ok (.bl (decide (i < j))) S := (rfl)
@[simp] theorem oLtB_ib (i : Int) (b : Bool) : oLtB (.int i) (.bl b) S = .ok (.bl (decide (i < bi b))) S := (rfl)
@[simp] theorem oLtB_bi (i : Int) (b : Bool) : oLtB (.bl b) (.int i) S = .ok (.bl (decide (bi b < i))) S := (rfl)
@[simp] theorem oLt_str (x y : List Nat) : oLt (.str x) (.str y) S = .ok (.bl (decide (x < y))) S := (rfl)
@[simp] theorem oLe_str (x y : List Nat) : oLe (.str x) (.str y) S = .ok (.bl (!decide (y < x))) S := (rfl)
end
end Fx

namespace Fx
open PySem PySem.Spec PyProof.Rows L2
/-! ### _law_next, as all the laws have it -/
def cellV (ns : List Int) (p : Nat) : Int := match ns[p]? with | some i => (i.natAbs : Int) | none => 0
/-- what drawing leaves on the tape -/
def nextV (ns : List Int) (p : Nat) (r s many : Int) : Int × Nat × Int × Int :=
  if r = 0 then
    let cell : Int := cellV ns p
    let p' := if p < ns.length then p + 1 else p
    if cell < 10 ^ 18 then
      let s' := (s * 69621 + cell * 40692 + 17) % 2147483647
      (s' / 5 * 48271 % 2147483647 % many, p', r, s')
    else (cell % many, p', cell / many, s)
  else (r % many, p, r / many, s)

/-- the tape: the script's numbers, the place, the rest, the seed -/
def tapeAt (S : List Cell) (n : Nat) : Option (Nat × List Int × Nat × Int × Int) := match S[n]? with
  | some (.lst [.loc k, .int p, .int r, .int s]) => match S[k]? with
    | some (.lst xs) => match intsD xs with
      | some ns => if k ≠ n ∧ 0 ≤ p ∧ 0 ≤ r ∧ 0 ≤ s ∧ s < 2147483647 then some (k, ns, p.toNat, r, s) else none
      | none => none
    | _ => none
  | _ => none
def m_next : List D → List Cell → Res D := fun ds S => match ds with
  | [.loc n, .int many] => match tapeAt S n with
    | some (k, ns, p, r, s) => if 0 < many ∧ many < 1073741824 then
        .ok (.int (nextV ns p r s many).1) (S.set n (.lst [.loc k, .int (nextV ns p r s many).2.1, .int (nextV ns p r s many).2.2.1, .int (nextV ns p r s many).2.2.2])) else .stk
    | none => .stk
  | _ => .stk
def bNext : MS := (mSeq (mSet 2 (mBin oIxA (mVar 0) (mC (.int 2))))
  (mSeq (mIf (mTst (mBin oEq (mVar 2) (mC (.int 0))))
  (mSeq (mSet 3 (mC (.int 0)))
    (mSeq (mIf (mTst (mBin oLt (mBin oIxA (mVar 0) (mC (.int 1))) (mB oLenA (mCons (mBin oIxA (mVar 0) (mC (.int 0))) mNil))))
    (mSeq (mSet 3 (mB oAbs (mCons (mB oIntS (mCons (mBin oIxA (mBin oIxA (mVar 0) (mC (.int 0))) (mBin oIxA (mVar 0) (mC (.int 1)))) mNil)) mNil)))
      (mAsg (gSubA (mVar 0) (mC (.int 1))) (mBin oAdd (mBin oIxA (mVar 0) (mC (.int 1))) (mC (.int 1)))))
    mNext)
    (mSeq (mSet 2 (mVar 3))
    (mIf (mTst (mBin oLt (mVar 3) (mBin oPow (mC (.int 10)) (mC (.int 18)))))
    (mSeq (mAsg (gSubA (mVar 0) (mC (.int 3))) (mBin oMod (mB oIntS (mCons (mBin oAdd (mBin oAdd (mBin oMulL (mBin oIxA (mVar 0) (mC (.int 3))) (mC (.int 69621))) (mBin oMulL (mVar 3) (mC (.int 40692)))) (mC (.int 17))) mNil)) (mC (.int 2147483647))))
      (mRet (mBin oMod (mBin oMod (mB oIntS (mCons (mBin oMulL (mB oIntS (mCons (mBin oDiv (mBin oIxA (mVar 0) (mC (.int 3))) (mC (.int 5))) mNil)) (mC (.int 48271))) mNil)) (mC (.int 2147483647))) (mVar 1))))
    mNext))))
  mNext)
  (mSeq (mAsg (gSubA (mVar 0) (mC (.int 2))) (mBin oDiv (mVar 2) (mVar 1)))
  (mRet (mBin oMod (mB oIntS (mCons (mVar 2) mNil)) (mVar 1))))))
theorem intsD_eq : ∀ {l : List D} {ns : List Int}, intsD l = some ns → l = ns.map D.int
  | [], ns, h => by cases h; rfl
  | d :: l, ns, h => by
    cases d with
    | int i =>
      unfold intsD at h
      obtain ⟨ms, h1, rfl⟩ := Option.map_eq_some_iff.mp h
      rw [intsD_eq h1]; rfl
    | _ => cases h
theorem tapeAt_some {S : List Cell} {n k : Nat} {ns : List Int} {p : Nat} {r s : Int} (h : tapeAt S n = some (k, ns, p, r, s)) :
    S[n]? = some (.lst [.loc k, .int p, .int r, .int s]) ∧ S[k]? = some (.lst (ns.map D.int)) ∧ k ≠ n ∧ 0 ≤ r ∧ 0 ≤ s ∧ s < 2147483647 := by
  unfold tapeAt at h
  split at h
  · rename_i k' p' r' s' e1
    split at h
    · rename_i xs e2
      split at h
      · rename_i ns' e3
        split at h
        · rename_i hc
          cases h
          obtain ⟨h1, h2, h3, h4, h5⟩ := hc
          rw [intsD_eq e3] at e2
          refine ⟨?_, e2, h1, h3, h4, h5⟩
          rw [e1, Int.toNat_of_nonneg h2]
        · cases h
      · cases h
    · cases h
  · cases h
theorem ref_next (ds : List D) (S : List Cell) (h : ds.length = 2) : RefR S (m_next ds S) (bNext (startD 4 ds) S) := by
  unfold m_next
  split
  · rename_i n many
    split
    · rename_i k ns p r s ht
      split
      · rename_i hm
        obtain ⟨hS, hK, hkn, hr0, hs0, hs1⟩ := tapeAt_some ht
        have hl := (List.getElem?_eq_some_iff.mp hS).1
        have hlk := (List.getElem?_eq_some_iff.mp hK).1
        have hkn' : n ≠ k := Ne.symm hkn
        refine ⟨by simp, by simp, fun c hc => ?_, [], .inl ?_⟩
        · rcases List.mem_or_eq_of_mem_set hc with hc | rfl
          · exact .inl hc
          · exact .inr (by simp [Cell.bel, hlk])
        · rw [List.append_nil]
          unfold bNext
          have hcd : cDiv 0 many = true := by unfold cDiv; simp; omega
          have hcd' : ∀ i, cDiv i many = true := fun i => hcd
          have h5 : ∀ i, cDiv i 5 = true := fun i => by unfold cDiv; decide
          have hmp : decide (0 < many) = true := by simp; omega
          have hpw : cPow 10 18 = true := by decide
          have e18 : (10 : Int) ^ (18 : Int).toNat = 1000000000000000000 := by decide
          have hst : startD 4 [D.loc n, .int many] = [some (.loc n), some (.int many), none, none] := rfl
          by_cases hr : r = 0
          · subst hr
            by_cases hp : p < ns.length
            · have hp' : decide ((p : Int) < (ns.length : Int)) = true := by simp; exact hp
              have eg : (ns.map D.int)[p]? = some (.int ns[p]) := by simp [hp]
              have eabs : (if ns[p] < 0 then -ns[p] else ns[p]) = (ns[p].natAbs : Int) := by split <;> omega
              generalize hcell : (ns[p].natAbs : Int) = cell at eabs
              have hc0 : 0 ≤ cell := by omega
              by_cases hc : cell < 1000000000000000000
              · have hcb : decide (cell < 1000000000000000000) = true := by simp [hc]
                have m1 : cMul s 69621 = true := by unfold cMul c64; simp
                have m2 : cMul cell 40692 = true := by unfold cMul c64; simp
                have m3 : ∀ i, cMul i 48271 = true := fun i => by unfold cMul c64; simp
                have en : nextV ns p 0 s many = ((s * 69621 + cell * 40692 + 17) % 2147483647 / 5 * 48271 % 2147483647 % many, p + 1, 0, (s * 69621 + cell * 40692 + 17) % 2147483647) := by
                  simp [nextV, cellV, hp, hcell, hc]
                rw [en, hst]
                simp only [mSeq_ev, mIf_ev, mSet_ev, mTst_ev, mBin_ev, mVar_ev, mC_ev, mB_ev, mCons_ev, mNil_ev, mAsg_ev, gSubA_ev, setD_loc, mRet_ev, mNext_ev, bind_ok, thenS_ok, List.getElem?_cons_succ, List.getElem?_cons_zero, List.set_cons_succ, List.set_cons_zero, oIxA_loc, cellL_ev, mlst_ev, hS, hK,
                  Option.bind_some, atI_zero, atI_one, atI_lit, optR_some, oEq_int, blD_bl, beq_self_eq_true, if_true, oLenA_loc, List.length_map, oLt_int, hp', atI_nat', eg, oIntS_int, oAbs_int, eabs, oAdd_int, List.length_cons, List.length_nil, ixN_one, List.getElem?_set_self hl, List.getElem?_set_ne hkn', List.set_set,
                  oPow, oInt_ev, hpw, e18, hcb, oMulL_int, m1, m2, m3, oMod, oDiv, hmp, h5, Nat.zero_add, show (1 : Nat) < 4 from by decide, List.length_set]
                simp [ixN, List.getElem?_set_self hl, List.set_set, hl, hmp, h5, m3]
              · have hcb : decide (cell < 1000000000000000000) = false := by simp [hc]
                have en : nextV ns p 0 s many = (cell % many, p + 1, cell / many, s) := by
                  simp [nextV, cellV, hp, hcell, hc]
                rw [en, hst]
                simp only [mSeq_ev, mIf_ev, mSet_ev, mTst_ev, mBin_ev, mVar_ev, mC_ev, mB_ev, mCons_ev, mNil_ev, mAsg_ev, gSubA_ev, setD_loc, mRet_ev, mNext_ev, bind_ok, thenS_ok, List.getElem?_cons_succ, List.getElem?_cons_zero, List.set_cons_succ, List.set_cons_zero, oIxA_loc, cellL_ev, mlst_ev, hS, hK,
                  Option.bind_some, atI_zero, atI_one, atI_lit, optR_some, oEq_int, blD_bl, beq_self_eq_true, if_true, oLenA_loc, List.length_map, oLt_int, hp', atI_nat', eg, oIntS_int, oAbs_int, eabs, oAdd_int, List.length_cons, List.length_nil, ixN_one, List.getElem?_set_self hl, List.getElem?_set_ne hkn', List.set_set,
                  oPow, oInt_ev, hpw, e18, hcb, Bool.false_eq_true, if_false, oMod, oDiv, hmp, hcd', Nat.zero_add, show (1 : Nat) < 4 from by decide]
                simp [ixN, List.getElem?_set_self hl, List.set_set, hl, hmp, hcd']
            · have hp' : decide ((p : Int) < (ns.length : Int)) = false := by simp; omega
              have eg : ns[p]? = none := List.getElem?_eq_none (by omega)
              have m1 : cMul s 69621 = true := by unfold cMul c64; simp
              have m2 : cMul 0 40692 = true := by unfold cMul c64; simp
              have m3 : ∀ i, cMul i 48271 = true := fun i => by unfold cMul c64; simp
              have en : nextV ns p 0 s many = ((s * 69621 + 0 * 40692 + 17) % 2147483647 / 5 * 48271 % 2147483647 % many, p, 0, (s * 69621 + 0 * 40692 + 17) % 2147483647) := by
                simp [nextV, cellV, hp, eg]
              rw [en, hst]
              simp only [mSeq_ev, mIf_ev, mSet_ev, mTst_ev, mBin_ev, mVar_ev, mC_ev, mB_ev, mCons_ev, mNil_ev, mAsg_ev, gSubA_ev, setD_loc, mRet_ev, mNext_ev, bind_ok, thenS_ok, List.getElem?_cons_succ, List.getElem?_cons_zero, List.set_cons_succ, List.set_cons_zero, oIxA_loc, cellL_ev, mlst_ev, hS, hK,
                Option.bind_some, atI_zero, atI_one, atI_lit, optR_some, oEq_int, blD_bl, beq_self_eq_true, if_true, oLenA_loc, List.length_map, oLt_int, hp', Bool.false_eq_true, if_false, oIntS_int, oAbs_int, oAdd_int, List.length_cons, List.length_nil, ixN_one, List.getElem?_set_self hl, List.getElem?_set_ne hkn', List.set_set,
                oPow, oInt_ev, hpw, e18, show decide ((0 : Int) < 1000000000000000000) = true from by decide, oMulL_int, m1, m2, m3, oMod, oDiv, hmp, h5, Nat.zero_add]
              simp [ixN, List.getElem?_set_self hl, List.set_set, hS, hmp, h5, m3]
          · have hrb : (r == 0) = false := by simp [hr]
            have en : nextV ns p r s many = (r % many, p, r / many, s) := by
              simp [nextV, hr]
            rw [en, hst]
            simp only [mSeq_ev, mIf_ev, mSet_ev, mTst_ev, mBin_ev, mVar_ev, mC_ev, mB_ev, mCons_ev, mNil_ev, mAsg_ev, gSubA_ev, setD_loc, mRet_ev, mNext_ev, bind_ok, thenS_ok, List.getElem?_cons_succ, List.getElem?_cons_zero, List.set_cons_succ, List.set_cons_zero, oIxA_loc, cellL_ev, mlst_ev, hS, hK,
              Option.bind_some, atI_zero, atI_one, atI_lit, optR_some, oEq_int, blD_bl, hrb, Bool.false_eq_true, if_false, oIntS_int, oDiv, oMod, oInt_ev, hcd', hmp, if_true]
            simp [ixN, List.getElem?_set_self hl, List.set_set, hl, hmp, hcd']
      · trivial
    · trivial
  · trivial
end Fx

namespace Fx
open PySem PySem.Spec PyProof.Rows L2
/-! ### _law_same, as all the laws have it -/
def sameL (R : D → D → Prop) : List D → List D → Prop
  | [], [] => True
  | x :: xs, y :: ys => R x y ∧ sameL R xs ys
  | _, _ => False
/-- one and the same data, of one kind, to a depth -/
def SameP (S : List Cell) : Nat → D → D → Prop
  | 0, _, _ => False
  | n + 1, a, b => match a, b with
    | .non, .non => True
    | .bl x, .bl y => x = y
    | .int x, .int y => x = y
    | .str x, .str y => x = y ∧ (∀ c ∈ x, c < 0x110000)
    | .tup xs, .tup ys => xs.length ≤ 1000 ∧ sameL (SameP S n) xs ys
    | .loc i, .loc j => ∃ xs ys, cellL S i = some xs ∧ cellL S j = some ys ∧ xs.length ≤ 1000 ∧ sameL (SameP S n) xs ys
    | _, _ => False
noncomputable def m_same (n : Nat) : List D → List Cell → Res D := by
  classical
  exact fun ds S => if ∃ a b, ds = [a, b] ∧ SameP S n a b then .ok (.bl true) S else .stk
noncomputable def bSame (rs : List D → List Cell → Res D) : MS := (mSeq (mIf (mTst (mBin oIsN (mVar 1) (mC .non)))
  (mRet (mBin oIsN (mVar 0) (mC .non)))
  mNext)
  (mSeq (mIf (mTru (mIsi "bool" (mVar 1)))
  (mRet (mAndV (mIsi "bool" (mVar 0)) (mBin oEq (mVar 0) (mVar 1))))
  mNext)
  (mSeq (mIf (mTru (mIsi "int" (mVar 1)))
  (mRet (mAndV (mIsi "int" (mVar 0)) (mAndV (mNotV (mIsi "bool" (mVar 0))) (mBin oEq (mVar 0) (mVar 1)))))
  mNext)
  (mSeq (mIf (mTru (mIsi "str" (mVar 1)))
  (mRet (mAndV (mIsi "str" (mVar 0)) (mBin oEq (mVar 0) (mVar 1))))
  mNext)
  (mSeq (mIf (mOr (mAnd (mTru (mIsi "list" (mVar 1))) (mNot (mTru (mIsi "list" (mVar 0))))) (mAnd (mTru (mIsi "tuple" (mVar 1))) (mNot (mTru (mIsi "tuple" (mVar 0))))))
  (mRet (mC (.bl false)))
  mNext)
  (mRet (mAndV (mBin oEq (mB oLenA (mCons (mVar 0) mNil)) (mB oLenA (mCons (mVar 1) mNil))) (mBin oEq (mFresh (mLc (mRng1 (mCons (mB oLenA (mCons (mVar 1) mNil)) mNil)) [2] (gN 2) (mNot (mTru (mCall rs (mCons (mBin oIxA (mVar 0) (mVar 2)) (mCons (mBin oIxA (mVar 1) (mVar 2)) mNil))))) (mC (.int 1)))) (mLst mNil)))))))))


theorem sameL_get {R : D → D → Prop} : ∀ {xs ys : List D}, sameL R xs ys → xs.length = ys.length ∧ ∀ (k : Nat) (h : k < xs.length) (h' : k < ys.length), R xs[k] ys[k]
  | [], [], _ => ⟨rfl, fun k h => by simp at h⟩
  | x :: xs, y :: ys, h => by
    obtain ⟨h1, h2⟩ := sameL_get h.2
    refine ⟨by simp [h1], fun k hk hk' => ?_⟩
    cases k with
    | zero => exact h.1
    | succ k => exact h2 k (by simpa using hk) (by simpa using hk')
  | [], _ :: _, h => h.elim
  | _ :: _, [], h => h.elim
theorem lc_none {g : MG} {t : MT} {e : ME} {ws : List Nat} {sd : Sl} {S : List Cell} {n : Nat} (hn : n ≤ sizeLine) (h : ∀ k, k < n → ∃ sd1, g (.int (0 + (k : Nat))) (wipeD sd ws) S = .ok sd1 S ∧ t sd1 S = .ok false S) :
    lcGo ⟨rngD 0 n, none⟩ ws g t e sd (rngD 0 n) [] S = .ok [] S := by
  have := lcGo_filter (it := ⟨rngD 0 n, none⟩) (ws := ws) (g := g) (t := t) (e := e) (sd := sd) (S := S) (fun _ => false) (fun d => d) trivial (rngD 0 n) [] (fun x hx => by
    obtain ⟨k, hk, rfl⟩ := List.mem_map.mp hx
    obtain ⟨sd1, a, b⟩ := h k (List.mem_range.mp hk)
    exact ⟨sd1, a, b, fun z => by cases z⟩) (by rw [rngD_length]; simpa using hn)
  rw [this]
  simp
theorem eq_empty (S : List Cell) : oEq (.loc S.length) (.loc (S.length + 1)) (S ++ [.lst []] ++ [.lst []]) = .ok (.bl true) (S ++ [.lst []] ++ [.lst []]) := by
  have e1 : (S ++ [Cell.lst []] ++ [Cell.lst []])[S.length]? = some (.lst []) := by simp
  have e2 : (S ++ [Cell.lst []] ++ [Cell.lst []])[S.length + 1]? = some (.lst []) := by
    rw [List.getElem?_append_right (by simp)]
    simp
  unfold oEq eqD
  simp only [pyD_loc, cellL_ev, e1, e2, Option.bind_some, List.mapM_nil]
  rfl
theorem cellL_get {S : List Cell} {i : Nat} {xs : List D} (h : cellL S i = some xs) : S[i]? = some (.lst xs) := by
  unfold cellL at h
  split at h
  · rename_i ys e
    cases h
    exact e
  · cases h
theorem m_same_ok {n : Nat} {S : List Cell} {a b : D} (h : SameP S n a b) : m_same n [a, b] S = .ok (.bl true) S := by
  unfold m_same
  rw [if_pos ⟨a, b, rfl, h⟩]
theorem str_all {x : List Nat} (h : ∀ c ∈ x, c < 0x110000) : x.all (fun c => decide (c < 0x110000)) = true := by
  rw [List.all_eq_true]
  intro c hc
  simpa using h c hc
theorem oEq_str {S : List Cell} {x y : List Nat} (h : ∀ c ∈ x, c < 0x110000) (h2 : ∀ c ∈ y, c < 0x110000) : oEq (.str x) (.str y) S = .ok (.bl (x == y)) S := by
  unfold oEq eqD
  simp only [pyD_str]
  rw [str_all h, str_all h2]
  simp only [if_true, Option.bind_some, Option.map_some]
  show Res.ok (D.bl ((⟨x.toArray⟩ : Str) == (⟨y.toArray⟩ : Str))) S = _
  rw [str_beq]
theorem ref_same (n : Nat) (ds : List D) (S : List Cell) (h : ds.length = 2) : RefR S (m_same (n + 1) ds S) (bSame (m_same n) (startD 3 ds) S) := by
  unfold m_same
  split
  · rename_i hh
    obtain ⟨a, b, rfl, hs⟩ := hh
    have hm : ∀ {x y}, SameP S n x y → m_same n [x, y] S = .ok (.bl true) S := fun h => m_same_ok h
    have hst : startD 3 [a, b] = [some a, some b, none] := rfl
    have fold : (open Classical in (fun ds S => if ∃ a b, ds = [a, b] ∧ SameP S n a b then Res.ok (D.bl true) S else Res.stk) : List D → List Cell → Res D) = m_same n := rfl
    have c62n : ∀ k : Nat, k ≤ 1000 → c62 (k : Int) = true := fun k hk => by unfold c62; simp; omega
    unfold bSame
    cases b with
    | adr _ => cases a <;> exact hs.elim
    | non =>
      cases a with
      | non => exact ref_pure0 (by simp) (by simp [startD])
      | _ => exact hs.elim
    | bl x =>
      cases a with
      | bl y =>
        have : y = x := hs
        subst this
        exact ref_pure0 (by simp) (by simp [startD])
      | _ => exact hs.elim
    | int x =>
      cases a with
      | int y =>
        have : y = x := hs
        subst this
        exact ref_pure0 (by simp) (by simp [startD])
      | _ => exact hs.elim
    | str x =>
      cases a with
      | str y =>
        obtain ⟨rfl, hx⟩ : y = x ∧ ∀ c ∈ y, c < 0x110000 := hs
        exact ref_pure0 (by simp) (by simp [startD, oEq_str hx hx])
      | _ => exact hs.elim
    | cst _ => cases a <;> exact hs.elim
    | tup ys =>
      cases a with
      | tup xs =>
        obtain ⟨hl, hs⟩ : xs.length ≤ 1000 ∧ sameL (SameP S n) xs ys := hs
        obtain ⟨hl2, hk⟩ := sameL_get hs
        refine ref_pure (junk := [.lst [], .lst []]) (by simp) ?_
        have e := lc_none (g := gN 2) (t := (mNot (mTru (mCall (m_same n) (mCons (mBin oIxA (mVar 0) (mVar 2)) (mCons (mBin oIxA (mVar 1) (mVar 2)) mNil)))))) (e := mC (.int 1)) (ws := [2]) (sd := [some (.tup xs), some (.tup ys), none]) (S := S) (n := ys.length) (line_le (by omega)) (fun k hk' => ⟨_, rfl, by
          have h1 : k < xs.length := by omega
          have e1 : xs[k]? = some xs[k] := by simp [h1]
          have e2 : ys[k]? = some ys[k] := by simp [hk']
          simp only [mNot_ev, mTru_ev, mCall_ev, mCons_ev, mBin_ev, mVar_ev, mNil_ev, wipeD, List.set_cons_succ, List.set_cons_zero, List.getElem?_cons_succ, List.getElem?_cons_zero, bind_ok, oIxA_tup, Int.zero_add, atI_nat', e1, e2, optR_some, hm (hk k h1 hk'), truD_bl]
          rfl⟩)
        have e62 := c62n ys.length (by omega)
        simp only [hst, mSeq_ev, mIf_ev, mTst_ev, mBin_ev, mVar_ev, mC_ev, mTru_ev, mIsi_ev, mOr_ev, mAnd_ev, mNot_ev, mRet_ev, mNext_ev, mAndV_ev, mB_ev, mCons_ev, mNil_ev, mFresh_ev, mLc_ev, mRng1_ev, mLst_ev, bind_ok, thenS_ok, List.getElem?_cons_succ, List.getElem?_cons_zero, oIsN_non, isNonD_tup, blD_bl, optR_some, Bool.false_eq_true, if_false, isi_tup_bool, isi_tup_int, isi_tup_str, isi_tup_list, isi_tup_tuple, truD_bl, Bool.not_true, Bool.not_false,
          oLenA_tup, hl2, oEq_int, beq_self_eq_true, e62, if_true, Int.toNat_natCast, fold, e, List.length_nil, Nat.zero_le, List.length_append, List.length_cons, Nat.zero_add, eq_empty]
        simp
      | _ => exact hs.elim
    | loc j =>
      cases a with
      | loc i =>
        obtain ⟨xs, ys, hi, hj, hl, hs⟩ : ∃ xs ys, cellL S i = some xs ∧ cellL S j = some ys ∧ xs.length ≤ 1000 ∧ sameL (SameP S n) xs ys := hs
        obtain ⟨hl2, hk⟩ := sameL_get hs
        have hi' := cellL_get hi
        have hj' := cellL_get hj
        refine ref_pure (junk := [.lst [], .lst []]) (by simp) ?_
        have e := lc_none (g := gN 2) (t := (mNot (mTru (mCall (m_same n) (mCons (mBin oIxA (mVar 0) (mVar 2)) (mCons (mBin oIxA (mVar 1) (mVar 2)) mNil)))))) (e := mC (.int 1)) (ws := [2]) (sd := [some (.loc i), some (.loc j), none]) (S := S) (n := ys.length) (line_le (by omega)) (fun k hk' => ⟨_, rfl, by
          have h1 : k < xs.length := by omega
          have e1 : xs[k]? = some xs[k] := by simp [h1]
          have e2 : ys[k]? = some ys[k] := by simp [hk']
          simp only [mNot_ev, mTru_ev, mCall_ev, mCons_ev, mBin_ev, mVar_ev, mNil_ev, wipeD, List.set_cons_succ, List.set_cons_zero, List.getElem?_cons_succ, List.getElem?_cons_zero, bind_ok, oIxA_loc, hi', hj', Option.bind_some, Int.zero_add, atI_nat', e1, e2, optR_some, hm (hk k h1 hk'), truD_bl]
          rfl⟩)
        have e62 := c62n ys.length (by omega)
        simp only [hst, mSeq_ev, mIf_ev, mTst_ev, mBin_ev, mVar_ev, mC_ev, mTru_ev, mIsi_ev, mOr_ev, mAnd_ev, mNot_ev, mRet_ev, mNext_ev, mAndV_ev, mB_ev, mCons_ev, mNil_ev, mFresh_ev, mLc_ev, mRng1_ev, mLst_ev, bind_ok, thenS_ok, List.getElem?_cons_succ, List.getElem?_cons_zero, oIsN_non, isNonD_loc, blD_bl, optR_some, Bool.false_eq_true, if_false, isi_loc_bool hj, isi_loc_int hj, isi_loc_str hj, isi_loc_list hj, isi_loc_tuple hj, isi_loc_list hi, truD_bl, Bool.not_true, Bool.not_false,
          oLenA_loc, hi', hj', hl2, oEq_int, beq_self_eq_true, e62, if_true, Int.toNat_natCast, fold, e, List.length_nil, Nat.zero_le, List.length_append, List.length_cons, Nat.zero_add, eq_empty]
        simp
      | _ => exact hs.elim
  · trivial
end Fx

namespace Fx
open PySem PySem.Spec PyProof.Rows L2
/-! ### walking over a text's signs while they are of a kind -/
def scan (p : Nat → Bool) (t : List Nat) (a : Nat) : Nat := a + ((t.drop a).takeWhile p).length
section
variable {p : Nat → Bool} {t : List Nat} {a : Nat} {c : Nat}
theorem scan_end (h : t.length ≤ a) : scan p t a = a := by
  unfold scan
  rw [List.drop_of_length_le h]
  rfl
theorem scan_stop (h : t[a]? = some c) (hc : p c = false) : scan p t a = a := by
  unfold scan
  obtain ⟨hl, e⟩ := List.getElem?_eq_some_iff.mp h
  rw [List.drop_eq_getElem_cons hl, e, List.takeWhile_cons, if_neg (by rw [hc]; exact Bool.false_ne_true)]
  rfl
theorem scan_go (h : t[a]? = some c) (hc : p c = true) : scan p t a = scan p t (a + 1) := by
  unfold scan
  obtain ⟨hl, e⟩ := List.getElem?_eq_some_iff.mp h
  rw [List.drop_eq_getElem_cons hl, e, List.takeWhile_cons, if_pos hc, List.length_cons]
  omega
theorem scan_ge : a ≤ scan p t a := by unfold scan; omega
theorem scan_le (h : a ≤ t.length) : scan p t a ≤ t.length := by
  unfold scan
  have h1 := (List.takeWhile_prefix p (l := t.drop a)).length_le
  rw [List.length_drop] at h1
  omega
theorem wh_scan {T : MT} {B : MS} {S : List Cell} {sdf : Nat → Sl} (h1 : ∀ a c, t[a]? = some c → T (sdf a) S = .ok (p c) S) (h0 : ∀ a, t.length ≤ a → T (sdf a) S = .ok false S) (hb : ∀ a, a < t.length → B (sdf a) S = .nx (sdf (a + 1)) S) :
    ∀ n a, t.length - a < n → whGo T B n (sdf a) S = .nx (sdf (scan p t a)) S := by
  intro n
  induction n with
  | zero => intro a h; omega
  | succ n ih =>
    intro a h
    unfold whGo
    by_cases hl : a < t.length
    · have e1 : t[a]? = some t[a] := by simp [hl]
      rw [h1 a _ e1, thenS_ok]
      cases hp : p t[a] with
      | false =>
        rw [scan_stop e1 hp]
        rfl
      | true =>
        rw [if_pos rfl, hb a hl, scan_go e1 hp]
        exact ih (a + 1) (by omega)
    · rw [h0 a (by omega), thenS_ok, scan_end (by omega)]
      rfl
theorem cut_nat {α : Type} (xs : List α) (h w : Nat) : cutG xs (some (h : Int)) (some ((h : Int) + (w : Int))) = (xs.drop h).take w := by
  have e : ((h : Int) + (w : Int)) = ((h + w : Nat) : Int) := by omega
  unfold cutG
  rw [e, HT.sIx_nat, HT.sIx_nat]
  by_cases hh : h ≤ xs.length
  · rw [Nat.min_eq_left hh, List.take_eq_take_iff, List.length_drop]
    omega
  · rw [List.drop_of_length_le (by omega), List.drop_of_length_le (by omega)]
    simp
/-- text[a:a + 1] -/
theorem cut_one (h : t[a]? = some c) : cutG t (some (a : Int)) (some ((a : Int) + 1)) = [c] := by
  have := cut_nat t a 1
  rw [show ((1 : Nat) : Int) = 1 from rfl] at this
  rw [this]
  obtain ⟨hl, e⟩ := List.getElem?_eq_some_iff.mp h
  rw [List.drop_eq_getElem_cons hl, e]
  rfl
theorem cut_none (h : t.length ≤ a) : cutG t (some (a : Int)) (some ((a : Int) + 1)) = [] := by
  have := cut_nat t a 1
  rw [show ((1 : Nat) : Int) = 1 from rfl] at this
  rw [this, List.drop_of_length_le h]
  rfl
/-- text[a:b] -/
theorem cut_ab {a b : Nat} (h : a ≤ b) : cutG t (some (a : Int)) (some (b : Int)) = (t.drop a).take (b - a) := by
  have := cut_nat t a (b - a)
  rw [show ((a : Int) + ((b - a : Nat) : Int)) = (b : Int) by omega] at this
  exact this
theorem lt_one {x y : Nat} : decide (([x] : List Nat) < [y]) = decide (x < y) := by
  by_cases h : x < y
  · rw [decide_eq_true h]
    exact decide_eq_true (List.Lex.rel h)
  · rw [decide_eq_false h]
    refine decide_eq_false fun z => ?_
    cases z with
    | rel q => exact h q
    | cons q => cases q
theorem lt_nil {y : Nat} : decide (([] : List Nat) < [y]) = true := decide_eq_true List.Lex.nil
theorem not_lt_nil {y : Nat} : decide (([y] : List Nat) < []) = false := decide_eq_false fun z => by cases z
def okT (x : List Nat) : Bool := x.all (· < 0x110000)
theorem eq_str {x y : List Nat} {S : List Cell} (hx : okT x = true) (hy : okT y = true) : oEq (.str x) (.str y) S = .ok (.bl (x == y)) S := by
  unfold okT at hx hy
  have e : PyData.eqv (.str ⟨x.toArray⟩) (.str ⟨y.toArray⟩) = (x == y) := by
    have h1 : PyData.eqv (.str ⟨x.toArray⟩) (.str ⟨y.toArray⟩) = ((⟨x.toArray⟩ : Str) == ⟨y.toArray⟩) := by simp [PyData.eqv]
    rw [h1]
    by_cases h : x = y
    · subst h; simp
    · have : ¬ ((⟨x.toArray⟩ : Str) = ⟨y.toArray⟩) := fun z => h (by
        have := congrArg Str.cps z
        simpa using this)
      rw [beq_eq_false_iff_ne.mpr this, beq_eq_false_iff_ne.mpr h]
  unfold oEq eqD
  rw [pyD_str, pyD_str, if_pos hx, if_pos hy]
  simp [e]
theorem ne_str {x y : List Nat} {S : List Cell} (hx : okT x = true) (hy : okT y = true) : oNe (.str x) (.str y) S = .ok (.bl (x != y)) S := by
  have h := eq_str (S := S) hx hy
  unfold oEq at h
  unfold oNe
  cases e : eqD S (.str x) (.str y) with
  | none => rw [e] at h; cases h
  | some b =>
    rw [e] at h
    have : b = (x == y) := by
      injection h with h1
      injection h1
    simp [this, bne]
end
end Fx

namespace Fx
open PySem PySem.Spec PyProof.Rows L2
/-! ### the tape in a law's body: cell 0 the script, cell 1 the tape -/
abbrev Tp : Type := Nat × Int × Int
def tpc (ns : List Int) (st : Tp) (rest : List Cell) : List Cell := .lst (ns.map D.int) :: .lst [.loc 0, .int st.1, .int st.2.1, .int st.2.2] :: rest
def okst (st : Tp) : Prop := 0 ≤ st.2.1 ∧ 0 ≤ st.2.2 ∧ st.2.2 < 2147483647
/-- one draw: what is drawn, and the tape behind it -/
def nx (ns : List Int) (st : Tp) (many : Int) : Int × Tp := nextV ns st.1 st.2.1 st.2.2 many
theorem nx_ok {ns : List Int} {st : Tp} {many : Int} (hm : 0 < many) (h : okst st) : 0 ≤ (nx ns st many).1 ∧ (nx ns st many).1 < many ∧ okst (nx ns st many).2 := by
  obtain ⟨p, r, s⟩ := st
  obtain ⟨h1, h2, h3⟩ := h
  have q1 : ∀ x : Int, 0 ≤ x % many ∧ x % many < many := fun x => ⟨Int.emod_nonneg _ (by omega), Int.emod_lt_of_pos _ hm⟩
  have hc : 0 ≤ cellV ns p := by
    unfold cellV
    split <;> omega
  unfold nx nextV
  simp only
  generalize cellV ns p = cell at hc
  by_cases hr : r = 0
  · rw [if_pos hr]
    by_cases hl : cell < 10 ^ 18
    · rw [if_pos hl]
      exact ⟨(q1 _).1, (q1 _).2, h1, Int.emod_nonneg _ (by decide), Int.emod_lt_of_pos _ (by decide)⟩
    · rw [if_neg hl]
      exact ⟨(q1 _).1, (q1 _).2, Int.ediv_nonneg hc (by omega), h2, h3⟩
  · rw [if_neg hr]
    exact ⟨(q1 _).1, (q1 _).2, Int.ediv_nonneg h1 (by omega), h2, h3⟩
theorem tape_tpc {ns : List Int} {st : Tp} (h : okst st) (rest : List Cell) : tapeAt (tpc ns st rest) 1 = some (0, ns, st.1, st.2.1, st.2.2) := by
  obtain ⟨p, r, s⟩ := st
  obtain ⟨h1, h2, h3⟩ := h
  unfold tapeAt tpc
  simp only [List.getElem?_cons_succ, List.getElem?_cons_zero, intsD_map]
  rw [if_pos ⟨by decide, Int.natCast_nonneg _, h1, h2, h3⟩]
  simp
theorem m_nx {ns : List Int} {st : Tp} {many : Int} (h : okst st) (hm : 0 < many) (hm2 : many < 1073741824) (rest : List Cell) :
    m_next [.loc 1, .int many] (tpc ns st rest) = .ok (.int (nx ns st many).1) (tpc ns (nx ns st many).2 rest) := by
  unfold m_next
  simp only [tape_tpc h]
  rw [if_pos ⟨hm, hm2⟩]
  rfl
/-- the tape in the store of a def -/
def tapeOf : List Cell → Option (List Int × Tp × List Cell)
  | .lst xs :: .lst [.loc 0, .int p, .int r, .int s] :: rest => match intsD xs with
    | some ns => if 0 ≤ p ∧ 0 ≤ r ∧ 0 ≤ s ∧ s < 2147483647 then some (ns, (p.toNat, r, s), rest) else none
    | none => none
  | _ => none
theorem tapeOf_tpc {ns : List Int} {st : Tp} (h : okst st) (rest : List Cell) : tapeOf (tpc ns st rest) = some (ns, st, rest) := by
  obtain ⟨p, r, s⟩ := st
  obtain ⟨h1, h2, h3⟩ := h
  unfold tapeOf tpc
  simp only [intsD_map]
  rw [if_pos ⟨Int.natCast_nonneg _, h1, h2, h3⟩]
  simp
theorem tapeOf_some {S : List Cell} {ns : List Int} {st : Tp} {rest : List Cell} (h : tapeOf S = some (ns, st, rest)) : S = tpc ns st rest ∧ okst st := by
  unfold tapeOf at h
  split at h
  · rename_i xs p r s rest'
    split at h
    · rename_i ns' e
      split at h
      · rename_i hc
        cases h
        obtain ⟨h0, h1, h2, h3⟩ := hc
        refine ⟨?_, h1, h2, h3⟩
        unfold tpc
        rw [intsD_eq e, Int.toNat_of_nonneg h0]
      · cases h
    · cases h
  · cases h
/-- a def that draws, and does nothing else to the store -/
theorem ref_tape {ns : List Int} {st st' : Tp} {rest junk : List Cell} {d : D} {b : ResS} (hd : d.bel (tpc ns st' rest).length) (h : b = .rt d (tpc ns st' rest ++ junk)) : RefR (tpc ns st rest) (.ok d (tpc ns st' rest)) b := by
  refine ⟨by simp [tpc], hd, fun c hc => ?_, junk, .inl h⟩
  unfold tpc at hc ⊢
  rcases List.mem_cons.mp hc with hc | hc
  · exact .inl (by rw [hc]; simp)
  · rcases List.mem_cons.mp hc with hc | hc
    · exact .inr (by rw [hc]; simp [Cell.bel])
    · exact .inl (by simp [hc])
/-- n draws in a row, each by f -/
def drawL {α : Type} (f : Tp → α × Tp) : Nat → Tp → List α × Tp
  | 0, st => ([], st)
  | n + 1, st => ((f st).1 :: (drawL f n (f st).2).1, (drawL f n (f st).2).2)
theorem drawL_ok {α : Type} {f : Tp → α × Tp} {p : α → Prop} (h : ∀ st, okst st → p (f st).1 ∧ okst (f st).2) : ∀ (n : Nat) (st : Tp), okst st → (drawL f n st).1.length = n ∧ (∀ x ∈ (drawL f n st).1, p x) ∧ okst (drawL f n st).2
  | 0, st, hs => ⟨rfl, fun x hx => (by cases hx), hs⟩
  | n + 1, st, hs => by
    obtain ⟨h1, h2⟩ := h st hs
    obtain ⟨i1, i2, i3⟩ := drawL_ok h n _ h2
    refine ⟨by simp [drawL, i1], fun x hx => ?_, i3⟩
    rcases List.mem_cons.mp hx with hx | hx
    · rw [hx]; exact h1
    · exact i2 x hx
/-- [f(tape) for k in xs] -/
theorem lc_draw {it : ItD} (hg : it.g = none) {ws : List Nat} {g : MG} {e : ME} {sd : Sl} {ns : List Int} {rest : List Cell} {f : Tp → D × Tp} (h : ∀ (x : D) (st : Tp), okst st → ∃ sd1, g x (wipeD sd ws) (tpc ns st rest) = .ok sd1 (tpc ns st rest) ∧ e sd1 (tpc ns st rest) = .ok (f st).1 (tpc ns (f st).2 rest)) (hk : ∀ st, okst st → okst (f st).2) :
    ∀ (xs acc : List D) (st : Tp), okst st → acc.length + xs.length ≤ 100000 → lcGo it ws g mYes e sd xs acc (tpc ns st rest) = .ok (acc ++ (drawL f xs.length st).1) (tpc ns (drawL f xs.length st).2 rest)
  | [], acc, st, hs, _ => by
    have ok : it.okAt (tpc ns st rest) := by unfold ItD.okAt; rw [hg]; trivial
    unfold lcGo
    rw [if_pos ok]
    simp [drawL]
  | x :: xs, acc, st, hs, hz => by
    have ok : it.okAt (tpc ns st rest) := by unfold ItD.okAt; rw [hg]; trivial
    obtain ⟨sd1, e1, e2⟩ := h x st hs
    rw [List.length_cons] at hz
    have hl : acc.length < sizeLine := by have : acc.length + 1 ≤ sizeLine := line_le (by omega); omega
    have ih := lc_draw hg h hk xs (acc ++ [(f st).1]) _ (hk st hs) (by rw [List.length_append, List.length_singleton]; omega)
    unfold lcGo
    rw [if_pos ok]
    simp only [e1, mYes_ev, if_true, e2, hl, ih]
    simp [drawL]
end Fx

namespace Fx
open PySem PySem.Spec PyProof.Rows L2
/-! ### a module's dict of texts, told by what the top has written -/
def keysB (es : Array DictEntry) (ps : List (String × String)) : Bool := es.toList.all fun e => match e.key with
  | .str y _ => ps.any fun p => Str.ofString p.1 == y
  | _ => false
theorem stS_cs (s : String) : stS (cs s) = Str.ofString s := str_back _
theorem ktab_mk {K : PySem.W.Frag} {w : World} {h : Heap} {mg : Str → Option Value} {x : Str} {d : Addr} {es : Array DictEntry} {n : Nat} {ps : List (String × String)} {tab : TabT} (X : K.In h) (G : h.Ns mainGlobals mg)
    (a : PySem.W.nsIn K mainGlobals x = some (some (.ref d))) (l : K.lookup d = some ⟨.type "dict", none, .dict es n, #[]⟩) (lit : PySem.W.KeysLit w.params es.toList) (low : (d == sysModules) = false)
    (hv : ∀ p ∈ ps, ∃ t, PySem.W.nsIn K d (Str.ofString p.1) = some (some (.str (Str.ofString p.2) t))) (tb : keysB es ps = true) (ht : tab = ps.map fun p => (cs p.1, cs p.2)) : KTab K w mg x tab := by
  refine ⟨d, es, n, PySem.W.mg_of X G a, l, lit, low, fun z => ⟨fun v hz => ?_, fun hz => ?_⟩⟩
  · unfold lookT at hz
    obtain ⟨q, h1, h2⟩ := Option.map_eq_some_iff.mp hz
    have hm := List.mem_of_find?_eq_some h1
    have hx := List.find?_some h1
    have hx : q.1 = z := by simpa using hx
    rw [ht] at hm
    obtain ⟨p, hp, rfl⟩ := List.mem_map.mp hm
    obtain ⟨t, e⟩ := hv p hp
    refine ⟨t, ?_⟩
    rw [← hx, ← h2, stS_cs, stS_cs]
    exact PySem.W.find_K l e
  · unfold keysB at tb
    rw [List.all_eq_true] at tb
    unfold findBy
    rw [Option.map_eq_none_iff]
    obtain ⟨ls⟩ := es
    rw [List.find?_toArray, List.find?_eq_none]
    intro e he hq
    have := tb e he
    split at this
    · rename_i y t ek
      rw [List.any_eq_true] at this
      obtain ⟨p, hp, hy⟩ := this
      have hy := eq_of_beq hy
      rw [ek] at hq
      have hq : stS z = y := by
        unfold Value.isStrOf at hq
        first | exact eq_of_beq hq | exact (eq_of_beq hq).symm | simpa using hq
      unfold lookT at hz
      rw [Option.map_eq_none_iff, ht, List.find?_eq_none] at hz
      refine hz (cs p.1, cs p.2) (List.mem_map.mpr ⟨p, hp, rfl⟩) ?_
      have : cs p.1 = z := by
        have e1 := congrArg (fun s : Str => s.cps.toList) (hy.trans hq.symm)
        unfold cs
        rw [e1]
        simp [stS]
      rw [this]
      exact beq_self_eq_true _
    · cases this
end Fx

namespace K80
open PySem PySem.Spec PyProof.Rows L2 Fx
abbrev ns_InvalidText : List (List Nat) := [cs "InvalidText", cs "ChiptrueError"]
/-! ### the mathematics of reading -/
def blankC (c : Nat) : Bool := decide (c ∈ cs " \n")
def digC (c : Nat) : Bool := decide (48 ≤ c) && decide (c ≤ 57)
def sk (t : List Nat) (a : Nat) : Nat := scan blankC t a
/-- a text that may be read -/
def tOk (t : List Nat) : Prop := t.length ≤ 100000 ∧ okT t = true
def fail (p : Nat) : Ex := ⟨"InvalidText", exFs ns_InvalidText (.int (p : Nat))⟩
/-- what reading comes to: a value and the place behind it, or the place that cannot stand -/
inductive Rd where
  | yes (d : D) (a : Nat) | no (a : Nat)
def resRd (S : List Cell) : Rd → Res D
  | .yes d a => .ok (.tup [d, .int (a : Nat)]) S
  | .no a => .exc (fail a) S
def iStart (t : List Nat) (a : Nat) : Nat := a + (if t[a]? = some 45 then 1 else 0)
def iEnd (t : List Nat) (a : Nat) : Nat := scan digC t (iStart t a)
def rdI (t : List Nat) (a : Nat) : Rd :=
  if iEnd t a = iStart t a then .no (iEnd t a)
  else if iStart t a + 40 < iEnd t a then .no a
  else .yes (.int ((PySem.intText? (stS ((t.drop a).take (iEnd t a - a)))).getD 0)) (sk t (iEnd t a))
def m_skipped : List D → List Cell → Res D := fun ds S => match ds with
  | [.str t, .int a] => if 0 ≤ a ∧ t.length ≤ 100000 then .ok (.int (sk t a.toNat)) S else .stk
  | _ => .stk
open Classical in
noncomputable def m_integer_at : List D → List Cell → Res D := fun ds S => match ds with
  | [.str t, .int a] => if 0 ≤ a ∧ a.toNat < t.length ∧ tOk t then resRd S (rdI t a.toNat) else .stk
  | _ => .stk
def t_SHORT : TabT := [(cs "n", cs "\n"), (cs "t", cs "\t"), (cs "\\", cs "\\"), (cs "'", cs "'")]
/-- a quoted text, from a on -/
def rdQ (t : List Nat) : Nat → Nat → List Nat → Rd
  | 0, a, _ => .no a
  | n + 1, a, f => match t[a]? with
    | none => .no a
    | some c => if c = 39 then .yes (.str f) (sk t (a + 1))
      else if c = 92 then (match lookT t_SHORT ((t.drop (a + 1)).take 1) with
        | some v => rdQ t n (a + 2) (f ++ v)
        | none => .no a)
      else rdQ t n (a + 1) (f ++ [c])
open Classical in
noncomputable def m_quote_at : List D → List Cell → Res D := fun ds S => match ds with
  | [.str t, .int a] => if 0 ≤ a ∧ tOk t then resRd S (rdQ t (t.length + 1) a.toNat []) else .stk
  | _ => .stk
end K80

namespace K80
open PySem PySem.Spec PyProof.Rows L2 Fx
theorem cs0 : cs "0" = [48] := by decide +kernel
theorem cs9 : cs "9" = [57] := by decide +kernel
theorem csm : cs "-" = [45] := by decide +kernel
abbrev digT : MT := mTst (mChain oLe oLe (mC (.str (cs "0"))) (mSlice (mVar 0) (mPart (mVar 2)) (mPart (mBin oAdd (mVar 2) (mC (.int 1))))) (mC (.str (cs "9"))))
theorem dig_go {t : List Nat} {S : List Cell} {x y : Option D} {a c : Nat} (ht : t.length ≤ 100000) (h : t[a]? = some c) : digT [some (.str t), x, some (.int (a : Nat)), y] S = .ok (digC c) S := by
  have hz : t.length ≤ sizeLine := line_le (by omega)
  have e := cut_one h
  by_cases h1 : 48 ≤ c
  · have d1 : decide (c < 48) = false := decide_eq_false (by omega)
    by_cases h2 : c ≤ 57
    · have d2 : decide (57 < c) = false := decide_eq_false (by omega)
      simp [digT, oSl, hz, e, cs0, cs9, lt_one, d1, d2, digC, h1, h2]
    · have d2 : decide (57 < c) = true := decide_eq_true (by omega)
      simp [digT, oSl, hz, e, cs0, cs9, lt_one, d1, d2, digC, h1, h2]
  · have d1 : decide (c < 48) = true := decide_eq_true (by omega)
    simp [digT, oSl, hz, e, cs0, cs9, lt_one, d1, digC, h1]
theorem dig_end {t : List Nat} {S : List Cell} {x y : Option D} {a : Nat} (ht : t.length ≤ 100000) (h : t.length ≤ a) : digT [some (.str t), x, some (.int (a : Nat)), y] S = .ok false S := by
  have hz : t.length ≤ sizeLine := line_le (by omega)
  have e := cut_none h
  simp [digT, oSl, hz, e, cs0, cs9, lt_nil]
theorem ref_exc {S : List Cell} {x : Ex} {b : ResS} {sd' : Sl} (hd : D.belL S.length (x.fs.map (·.2))) (h : b = .exc x sd' S) : RefR S (.exc x S) b :=
  ⟨Nat.le_refl _, hd, fun c hc => .inl hc, [], sd', by rw [List.append_nil]; exact h⟩
theorem fail_bel {n p : Nat} : D.belL n ((fail p).fs.map (·.2)) := by
  unfold fail exFs
  simp
theorem take_scan {p : Nat → Bool} {t : List Nat} {a : Nat} : (t.drop a).take (Fx.scan p t a - a) = (t.drop a).takeWhile p := by
  have e : Fx.scan p t a - a = ((t.drop a).takeWhile p).length := by unfold Fx.scan; omega
  rw [e]
  exact (List.prefix_iff_eq_take.mp (List.takeWhile_prefix p)).symm
theorem all_dig {l : List Nat} : NumText.AllDigits (l.takeWhile digC) := fun c hc => by
  have : ∀ {l : List Nat}, c ∈ l.takeWhile digC → digC c = true := by
    intro l
    induction l with
    | nil => intro h; cases h
    | cons x l ih =>
      intro h
      rw [List.takeWhile_cons] at h
      split at h
      · rename_i hx
        rcases List.mem_cons.mp h with h | h
        · rw [h]; exact hx
        · exact ih h
      · cases h
  have h2 := this hc
  unfold digC at h2
  simpa using h2
theorem int_some {t : List Nat} {k : Nat} (al : k < t.length) (tl : t.length ≤ 100000) (h1 : ¬ iEnd t k = iStart t k) (h2 : ¬ iStart t k + 40 < iEnd t k) : ∃ n, PySem.intText? (stS ((t.drop k).take (iEnd t k - k))) = some n := by
  have hs : iStart t k ≤ iEnd t k := scan_ge
  have e1 : t[k]? = some t[k] := by simp [al]
  have hne : ∀ a, iStart t k = a → (t.drop a).takeWhile digC ≠ [] := fun a ha z => by
    apply h1
    unfold iEnd Fx.scan
    rw [ha, z]
    rfl
  by_cases hq : t[k] = 45
  · have hst : iStart t k = k + 1 := by unfold iStart; rw [e1, hq]; simp
    have hL : (t.drop k).take (iEnd t k - k) = 45 :: (t.drop (k + 1)).takeWhile digC := by
      rw [List.drop_eq_getElem_cons al, hq, show iEnd t k - k = (iEnd t k - (k + 1)) + 1 by omega, List.take_succ_cons]
      congr 1
      have := take_scan (p := digC) (t := t) (a := k + 1)
      unfold iEnd
      rw [hst]
      exact this
    rw [hL]
    have hl : ((t.drop (k + 1)).takeWhile digC).length ≤ 41 := by
      have := (List.takeWhile_prefix digC (l := t.drop (k + 1))).length_le
      have e : iEnd t k = k + 1 + ((t.drop (k + 1)).takeWhile digC).length := by unfold iEnd Fx.scan; rw [hst]
      omega
    exact ⟨_, PySem.intText_neg (x := stS (45 :: (t.drop (k + 1)).takeWhile digC)) (cs := (t.drop (k + 1)).takeWhile digC) (by simp [stS]) all_dig (hne _ hst) (by rw [stS_len, List.length_cons]; omega)⟩
  · have hst : iStart t k = k := by unfold iStart; rw [e1]; simp [hq]
    have hL : (t.drop k).take (iEnd t k - k) = (t.drop k).takeWhile digC := by
      have := take_scan (p := digC) (t := t) (a := k)
      unfold iEnd
      rw [hst]
      exact this
    rw [hL]
    have hl : ((t.drop k).takeWhile digC).length ≤ 41 := by
      have e : iEnd t k = k + ((t.drop k).takeWhile digC).length := by unfold iEnd Fx.scan; rw [hst]
      omega
    exact ⟨_, PySem.intText_digits (x := stS ((t.drop k).takeWhile digC)) (by simpa [stS] using all_dig) (by simpa [stS] using hne _ hst) (by rw [stS_len]; omega)⟩
abbrev bInt : MS := (mSeq (mSet 2 (mBin oAdd (mVar 1) (mB oIntS (mCons (mBin oEq (mBin oIxA (mVar 0) (mVar 1)) (mC (.str (cs "-")))) mNil))))
  (mSeq (mSet 3 (mVar 2))
  (mSeq (mWhile whN (mTst (mChain oLe oLe (mC (.str (cs "0"))) (mSlice (mVar 0) (mPart (mVar 2)) (mPart (mBin oAdd (mVar 2) (mC (.int 1))))) (mC (.str (cs "9")))))
  (mAug 2 oAddS (mC (.int 1))))
  (mSeq (mIf (mTst (mBin oEq (mVar 2) (mVar 3)))
  (mRaise "InvalidText" ns_InvalidText (mVar 2))
  mNext)
  (mSeq (mIf (mTst (mBin oGt (mVar 2) (mBin oAdd (mVar 3) (mC (.int 40)))))
  (mRaise "InvalidText" ns_InvalidText (mVar 1))
  mNext)
  (mRet (mTup (mCons (mB oIntS (mCons (mSlice (mVar 0) (mPart (mVar 1)) (mPart (mVar 2))) mNil)) (mCons (mCall m_skipped (mCons (mVar 0) (mCons (mVar 2) mNil))) mNil)))))))))

theorem ref_integer_at (ds : List D) (S : List Cell) (h : ds.length = 2) (b : MS) (hb : b = bInt) : RefR S (m_integer_at ds S) (b (startD 4 ds) S) := by
  subst hb
  unfold m_integer_at
  split
  · rename_i t a
    split
    · rename_i hc
      obtain ⟨a0, al, tl, tok⟩ := hc
      obtain ⟨k, rfl⟩ := Int.eq_ofNat_of_zero_le a0
      rw [Int.toNat_natCast] at al ⊢
      have hz : t.length ≤ sizeLine := line_le (by omega)
      have e1 : t[k]? = some t[k] := by simp [al]
      have tk : okT [t[k]] = true := by
        unfold okT at tok ⊢
        rw [List.all_eq_true] at tok
        simpa using tok t[k] (List.getElem_mem al)
      have st : (k : Int) + (if ([t[k]] == [45]) = true then 1 else 0) = (iStart t k : Nat) := by
        unfold iStart
        rw [e1]
        by_cases hq : t[k] = 45
        · simp [hq]
        · simp [hq]
      have hsl : startD 4 [D.str t, .int (k : Nat)] = [some (.str t), some (.int (k : Nat)), none, none] := rfl
      have wh := wh_scan (p := digC) (t := t) (T := digT) (B := mAug 2 oAddS (mC (.int 1))) (S := S) (sdf := fun a => [some (.str t), some (.int (k : Nat)), some (.int (a : Nat)), some (.int (iStart t k : Nat))])
        (fun a c hc => dig_go tl hc) (fun a ha => dig_end tl ha) (fun a _ => by simp [oAddS]) whN (iStart t k) (by unfold whN; omega)
      have t45 : okT [45] = true := by decide
      have wh : whGo digT (mAug 2 oAddS (mC (.int 1))) whN [some (.str t), some (.int (k : Nat)), some (.int (iStart t k : Nat)), some (.int (iStart t k : Nat))] S = .nx [some (.str t), some (.int (k : Nat)), some (.int (iEnd t k : Nat)), some (.int (iStart t k : Nat))] S := wh
      rw [hsl]
      simp only [bInt, mSeq_ev, mSet_ev, mBin_ev, mVar_ev, mB_ev, mCons_ev, mNil_ev, mC_ev, bind_ok, thenS_ok, List.getElem?_cons_succ, List.getElem?_cons_zero, oIxA_str, hz, if_true, atI_nat', e1, Option.map_some, optR_some, csm, eq_str tk t45, oIntS_bl, oAdd_int, st, List.set_cons_succ, List.set_cons_zero, mWhile_ev, wh]
      by_cases h1 : iEnd t k = iStart t k
      · have er : rdI t k = .no (iEnd t k) := by unfold rdI; rw [if_pos h1]
        rw [er]
        refine ref_exc (sd' := [some (.str t), some (.int (k : Nat)), some (.int (iEnd t k : Nat)), some (.int (iStart t k : Nat))]) fail_bel ?_
        have eb : ((iEnd t k : Int) == (iStart t k : Int)) = true := by rw [h1]; simp
        simp [eb, fail]
      · have eb : ((iEnd t k : Int) == (iStart t k : Int)) = false := by simp; omega
        by_cases h2 : iStart t k + 40 < iEnd t k
        · have er : rdI t k = .no k := by unfold rdI; rw [if_neg h1, if_pos h2]
          rw [er]
          refine ref_exc (sd' := [some (.str t), some (.int (k : Nat)), some (.int (iEnd t k : Nat)), some (.int (iStart t k : Nat))]) fail_bel ?_
          have d2 : (iStart t k : Int) + 40 < (iEnd t k : Int) := by omega
          simp [eb, fail, oGt, d2]
        · have d2 : ¬ (iStart t k : Int) + 40 < (iEnd t k : Int) := by omega
          have er : rdI t k = .yes (.int ((PySem.intText? (stS ((t.drop k).take (iEnd t k - k)))).getD 0)) (sk t (iEnd t k)) := by unfold rdI; rw [if_neg h1, if_neg h2]
          rw [er]
          have ek : k ≤ iEnd t k := by
            have h3 : iStart t k ≤ iEnd t k := scan_ge
            have h4 : k ≤ iStart t k := by unfold iStart; omega
            omega
          obtain ⟨n, ei⟩ : ∃ n, PySem.intText? (stS ((t.drop k).take (iEnd t k - k))) = some n := int_some al tl h1 h2
          rw [ei, Option.getD_some]
          refine ref_pure0 (by simp) ?_
          have ml : m_skipped [.str t, .int (iEnd t k : Nat)] S = .ok (.int (sk t (iEnd t k))) S := by
            unfold m_skipped
            simp only
            rw [if_pos ⟨by omega, tl⟩, Int.toNat_natCast]
          have hl2 : min (iEnd t k - k) (t.length - k) ≤ 640 := by
            have h4 : iStart t k ≤ k + 1 := by unfold iStart; split <;> omega
            omega
          have z2 : 2 ≤ sizeLine := line_le (by omega)
          simp [eb, oGt, d2, oSl, hz, cut_ab ek, oIntS, ei, hl2, ml, z2]
    · trivial
  · trivial
end K80

namespace K80
open PySem PySem.Spec PyProof.Rows L2 Fx
theorem csq : cs "'" = [39] := by decide +kernel
theorem csb : cs "\\" = [92] := by decide +kernel
theorem cse : cs "" = [] := by decide +kernel
theorem okT_at {t : List Nat} {a c : Nat} (h : okT t = true) (e : t[a]? = some c) : okT [c] = true := by
  unfold okT at h ⊢
  rw [List.all_eq_true] at h
  obtain ⟨hl, q⟩ := List.getElem?_eq_some_iff.mp e
  simpa using h c (by rw [← q]; exact List.getElem_mem hl)
theorem short_len {x v : List Nat} (h : lookT t_SHORT x = some v) : v.length = 1 ∧ okT v = true ∧ v ≠ [] ∧ x.length = 1 := by
  unfold lookT at h
  obtain ⟨p, h1, h2⟩ := Option.map_eq_some_iff.mp h
  have hm := List.mem_of_find?_eq_some h1
  have hx := List.find?_some h1
  have hx : p.1 = x := by simpa using hx
  have all : ∀ q ∈ t_SHORT, q.2.length = 1 ∧ okT q.2 = true ∧ q.2 ≠ [] ∧ q.1.length = 1 := by decide +kernel
  have := all p hm
  rw [h2, hx] at this
  exact this
abbrev qT : MT := mTst (mBin oNe (mSlice (mVar 0) (mPart (mVar 1)) (mPart (mBin oAdd (mVar 1) (mC (.int 1))))) (mC (.str (cs "'"))))
abbrev qB : MS := (mSeq (mSet 3 (mSlice (mVar 0) (mPart (mVar 1)) (mPart (mBin oAdd (mVar 1) (mC (.int 1))))))
    (mSeq (mIf (mTst (mBin oEq (mVar 3) (mC (.str (cs "")))))
    (mRaise "InvalidText" ns_InvalidText (mVar 1))
    mNext)
    (mSeq (mIf (mTst (mBin oEq (mVar 3) (mC (.str (cs "\\")))))
    (mSeq (mSet 3 (mKget t_SHORT (mSlice (mVar 0) (mPart (mBin oAdd (mVar 1) (mC (.int 1)))) (mPart (mBin oAdd (mVar 1) (mC (.int 2))))) (mC (.str (cs "")))))
      (mSeq (mIf (mTst (mBin oEq (mVar 3) (mC (.str (cs "")))))
      (mRaise "InvalidText" ns_InvalidText (mVar 1))
      mNext)
      (mAug 1 oAddS (mC (.int 1)))))
    mNext)
    (mSeq (mAug 2 oAddS (mVar 3))
    (mAug 1 oAddS (mC (.int 1)))))))
abbrev bQuote : MS := (mSeq (mSet 2 (mC (.str (cs ""))))
  (mSeq (mWhile whN qT qB)
  (mRet (mTup (mCons (mVar 2) (mCons (mCall m_skipped (mCons (mVar 0) (mCons (mBin oAdd (mVar 1) (mC (.int 1))) mNil))) mNil))))))
abbrev sl4 (t : List Nat) (a : Nat) (f : List Nat) (x : Option D) : Sl := [some (.str t), some (.int (a : Nat)), some (.str f), x]
@[simp] theorem mKget_ev (tab : TabT) (e f : ME) (sd : Sl) (S : List Cell) : mKget tab e f sd S = (e sd S).bind fun d S1 => (f sd S1).bind fun z S2 => match d with
  | .str x => (match lookT tab x with | some v => .ok (.str v) S2 | none => .ok z S2)
  | _ => .stk := (rfl)
theorem q_test {t f : List Nat} {S : List Cell} {a : Nat} {x : Option D} (h : tOk t) : qT (sl4 t a f x) S = .ok (t[a]? != some 39) S := by
  have hz : t.length ≤ sizeLine := line_le (by have := h.1; omega)
  have o39 : okT [39] = true := by decide
  cases e : t[a]? with
  | none =>
    have c := cut_none (List.getElem?_eq_none_iff.mp e)
    have on : okT [] = true := by decide
    simp [qT, sl4, oSl, hz, c, csq, ne_str on o39]
    rfl
  | some c =>
    have c1 := cut_one e
    simp [qT, sl4, oSl, hz, c1, csq, ne_str (okT_at h.2 e) o39]
    by_cases hc : c = 39
    · subst hc; rfl
    · simp [hc, bne]
theorem on : okT [] = true := by decide
theorem o92 : okT [92] = true := by decide
theorem q_none {t f : List Nat} {S : List Cell} {a : Nat} {x : Option D} (h : tOk t) (e : t[a]? = none) : qB (sl4 t a f x) S = .exc (fail a) (sl4 t a f (some (.str []))) S := by
  have hz : t.length ≤ sizeLine := line_le (by have := h.1; omega)
  have c := cut_none (List.getElem?_eq_none_iff.mp e)
  simp [qB, sl4, oSl, hz, c, cse, eq_str on on, fail]
theorem q_plain {t f : List Nat} {S : List Cell} {a c : Nat} {x : Option D} (h : tOk t) (e : t[a]? = some c) (h1 : c ≠ 92) (hf : f.length ≤ a) : qB (sl4 t a f x) S = .nx (sl4 t (a + 1) (f ++ [c]) (some (.str [c]))) S := by
  have hz : t.length ≤ sizeLine := line_le (by have := h.1; omega)
  have hl := (List.getElem?_eq_some_iff.mp e).1
  have hf2 : f.length + 1 ≤ sizeLine := line_le (by have := h.1; omega)
  have c1 := cut_one e
  have n1 : (([c] : List Nat) == []) = false := rfl
  have n2 : (([c] : List Nat) == [92]) = false := by simp [h1]
  simp [qB, sl4, oSl, hz, c1, cse, csb, eq_str (okT_at h.2 e) on, eq_str (okT_at h.2 e) o92, n1, n2, hf2]
theorem cut_next {t : List Nat} {a : Nat} : cutG t (some ((a : Int) + 1)) (some ((a : Int) + 2)) = (t.drop (a + 1)).take 1 := by
  have := cut_ab (t := t) (a := a + 1) (b := a + 2) (by omega)
  rw [show a + 2 - (a + 1) = 1 by omega] at this
  exact this
theorem q_esc {t f v : List Nat} {S : List Cell} {a : Nat} {x : Option D} (h : tOk t) (e : t[a]? = some 92) (hf : f.length ≤ a) (hv : lookT t_SHORT ((t.drop (a + 1)).take 1) = some v) : qB (sl4 t a f x) S = .nx (sl4 t (a + 2) (f ++ v) (some (.str v))) S := by
  have hz : t.length ≤ sizeLine := line_le (by have := h.1; omega)
  have hl := (List.getElem?_eq_some_iff.mp e).1
  obtain ⟨v1, vo, vn, _⟩ := short_len hv
  have hf2 : f.length + v.length ≤ sizeLine := line_le (by have := h.1; omega)
  have c1 := cut_one e
  have n1 : (([92] : List Nat) == []) = false := rfl
  have n2 : (v == []) = false := by simpa using vn
  have e2 : ((a : Int) + 1 + 1) = ((a : Int) + 2) := by omega
  simp [qB, sl4, oSl, hz, c1, cse, csb, eq_str o92 on, eq_str o92 o92, eq_str vo on, n1, n2, hf2, cut_next, hv, e2]
theorem q_bad {t f : List Nat} {S : List Cell} {a : Nat} {x : Option D} (h : tOk t) (e : t[a]? = some 92) (hv : lookT t_SHORT ((t.drop (a + 1)).take 1) = none) : qB (sl4 t a f x) S = .exc (fail a) (sl4 t a f (some (.str []))) S := by
  have hz : t.length ≤ sizeLine := line_le (by have := h.1; omega)
  have c1 := cut_one e
  have n1 : (([92] : List Nat) == []) = false := rfl
  simp [qB, sl4, oSl, hz, c1, cse, csb, eq_str o92 on, eq_str o92 o92, eq_str on on, n1, cut_next, hv, fail]
/-- the loop of a quoted text -/
theorem q_loop {t : List Nat} {S : List Cell} (h : tOk t) : ∀ (n M a : Nat) (f : List Nat) (x : Option D), n < M → t.length + 1 ≤ a + n → f.length ≤ a →
    match rdQ t n a f with
    | .yes d b => ∃ a' f' x', d = .str f' ∧ b = sk t (a' + 1) ∧ whGo qT qB M (sl4 t a f x) S = .nx (sl4 t a' f' x') S
    | .no p => ∃ x', whGo qT qB M (sl4 t a f x) S = .exc (fail p) x' S
  | 0, M + 1, a, f, x, _, ha, hf => by
    have e : t[a]? = none := List.getElem?_eq_none (by omega)
    unfold rdQ whGo
    exact ⟨sl4 t a f (some (.str [])), by rw [q_test h, e, thenS_ok, if_pos (show (none != some (39 : Nat)) = true from rfl), q_none h e]⟩
  | n + 1, M + 1, a, f, x, hm, ha, hf => by
    unfold rdQ whGo
    cases e : t[a]? with
    | none =>
      exact ⟨sl4 t a f (some (.str [])), by rw [q_test h, e, thenS_ok, if_pos (show (none != some (39 : Nat)) = true from rfl), q_none h e]⟩
    | some c =>
      simp only [q_test h, e, thenS_ok]
      by_cases hc : c = 39
      · subst hc
        rw [if_pos rfl]
        exact ⟨a, f, x, rfl, rfl, rfl⟩
      · have hne : (some c != some 39) = true := by simp [hc]
        simp only [hne, if_neg hc, if_true]
        by_cases h92 : c = 92
        · subst h92
          rw [if_pos rfl]
          cases hv : lookT t_SHORT ((t.drop (a + 1)).take 1) with
          | none =>
            simp only [q_bad h e hv]
            exact ⟨_, rfl⟩
          | some v =>
            simp only [q_esc h e hf hv]
            exact q_loop h n M (a + 2) (f ++ v) _ (by omega) (by omega) (by rw [List.length_append]; have := (short_len hv).1; omega)
        · rw [if_neg h92]
          simp only [q_plain h e h92 hf]
          exact q_loop h n M (a + 1) (f ++ [c]) _ (by omega) (by omega) (by rw [List.length_append, List.length_singleton]; omega)
theorem m_skipped_ok {t : List Nat} {a : Nat} {S : List Cell} (h : tOk t) : m_skipped [.str t, .int (a : Nat)] S = .ok (.int (sk t a : Nat)) S := by
  unfold m_skipped
  simp only
  rw [if_pos ⟨by omega, h.1⟩, Int.toNat_natCast]
theorem m_skipped_ok1 {t : List Nat} {a : Nat} {S : List Cell} (h : tOk t) : m_skipped [.str t, .int ((a : Int) + 1)] S = .ok (.int (sk t (a + 1) : Nat)) S := m_skipped_ok (a := a + 1) h
theorem z2 : 2 ≤ sizeLine := line_le (by omega)
theorem ref_quote_at (ds : List D) (S : List Cell) (hl : ds.length = 2) (b : MS) (hb : b = bQuote) : RefR S (m_quote_at ds S) (b (startD 4 ds) S) := by
  subst hb
  unfold m_quote_at
  split
  · rename_i t a
    split
    · rename_i hc
      obtain ⟨a0, tok⟩ := hc
      obtain ⟨k, rfl⟩ := Int.eq_ofNat_of_zero_le a0
      rw [Int.toNat_natCast]
      have hsl : startD 4 [D.str t, .int (k : Nat)] = [some (.str t), some (.int (k : Nat)), none, none] := rfl
      have L := q_loop (S := S) tok (t.length + 1) whN k [] none (by have := tok.1; unfold whN; omega) (by omega) (by simp)
      rw [hsl]
      cases hr : rdQ t (t.length + 1) k [] with
      | yes d b =>
        rw [hr] at L
        obtain ⟨a', f', x', rfl, rfl, e⟩ := L
        refine ref_pure0 (by simp) ?_
        have e' : whGo qT qB whN [some (.str t), some (.int (k : Nat)), some (.str []), none] S = .nx (sl4 t a' f' x') S := e
        simp only [bQuote, mSeq_ev, mSet_ev, mC_ev, cse, thenS_ok, List.set_cons_succ, List.set_cons_zero, mWhile_ev, e']
        simp [sl4, m_skipped_ok1 tok, z2]
      | no p =>
        rw [hr] at L
        obtain ⟨x', e⟩ := L
        refine ref_exc (sd' := x') fail_bel ?_
        have e' : whGo qT qB whN [some (.str t), some (.int (k : Nat)), some (.str []), none] S = .exc (fail p) x' S := e
        simp only [bQuote, mSeq_ev, mSet_ev, mC_ev, cse, thenS_ok, List.set_cons_succ, List.set_cons_zero, mWhile_ev, e']
    · trivial
  · trivial
end K80

namespace K80
open PySem PySem.Spec PyProof.Rows L2 Fx
/-! ### the plain reader -/
def wrdC (c : Nat) : Bool := decide (97 ≤ c) && decide (c ≤ 122)
def wEnd (t : List Nat) (a : Nat) : Nat := scan wrdC t a
def wW (t : List Nat) (a : Nat) : List Nat := (t.drop a).take (wEnd t a - a)
def rdW (t : List Nat) (a : Nat) : Rd := if wW t a = cs "none" then .yes .non (sk t (wEnd t a)) else if wW t a = cs "true" then .yes (.bl true) (sk t (wEnd t a))
  else if wW t a = cs "false" then .yes (.bl false) (sk t (wEnd t a)) else .no a
def numC : Option Nat → Bool
  | some c => c == 45 || digC c
  | none => false
def rdL (t : List Nat) (a : Nat) : Rd := if t[a]? = some 39 then rdQ t (t.length + 1) (a + 1) [] else if numC t[a]? = true then rdI t a else rdW t a
def rdT (rd : Nat → Rd) (t : List Nat) : Nat → Nat → List D → Rd
  | 0, a, _ => .no a
  | n + 1, a, l => if t[a]? = some 41 then .yes (.tup l) (sk t (a + 1)) else match rd a with
    | .no p => .no p
    | .yes d b => rdT rd t n b (l ++ [d])
def rdV (t : List Nat) : Nat → Nat → Rd
  | 0, a => if t[a]? = some 40 then .no a else rdL t a
  | n + 1, a => if t[a]? = some 40 then rdT (rdV t n) t (t.length + 1) (sk t (a + 1)) [] else rdL t a
def tupV (t : List Nat) : Nat → Nat → Rd
  | 0, a => .no a
  | n + 1, a => rdT (rdV t n) t (t.length + 1) (sk t (a + 1)) []
theorem rdV_eq (t : List Nat) (n a : Nat) : rdV t n a = if t[a]? = some 40 then tupV t n a else rdL t a := by
  cases n <;> rfl
theorem scan_ge' {p : Nat → Bool} {t : List Nat} {a : Nat} : a ≤ Fx.scan p t a := scan_ge
/-- what a reading gives: it goes on, its value is plain -/
def Good (t : List Nat) (k a : Nat) (r : Rd) : Prop := ∀ d b, r = .yes d b → a < b ∧ (∀ m, D.bel m d) ∧ (t.length ≤ 1000 → ∀ S, SameP S k d d)
theorem okT_app {x y : List Nat} (h : okT x = true) (h2 : okT y = true) : okT (x ++ y) = true := by
  unfold okT at h h2 ⊢
  rw [List.all_append, h, h2]
  rfl
theorem okT_mem {x : List Nat} (h : okT x = true) : ∀ c ∈ x, c < 0x110000 := fun c hc => by
  unfold okT at h
  have := List.all_eq_true.mp h c hc
  simpa using this
theorem rdQ_good {t : List Nat} (h : okT t = true) (k : Nat) : ∀ (n a : Nat) (f : List Nat), okT f = true → Good t (k + 1) a (rdQ t n a f)
  | 0, a, f, hf => fun d b e => by unfold rdQ at e; cases e
  | n + 1, a, f, hf => fun d b e => by
    unfold rdQ at e
    split at e
    · cases e
    · rename_i c ec
      split at e
      · cases e
        refine ⟨?_, fun m => by simp, fun _ S => ⟨rfl, okT_mem hf⟩⟩
        have : a + 1 ≤ Fx.scan blankC t (a + 1) := scan_ge
        show a < Fx.scan blankC t (a + 1)
        omega
      · split at e
        · split at e
          · rename_i v hv
            obtain ⟨h1, h2, h3⟩ := rdQ_good h k n (a + 2) (f ++ v) (okT_app hf (short_len hv).2.1) d b e
            exact ⟨by omega, h2, h3⟩
          · cases e
        · obtain ⟨h1, h2, h3⟩ := rdQ_good h k n (a + 1) (f ++ [c]) (okT_app hf (okT_at h ec)) d b e
          exact ⟨by omega, h2, h3⟩
theorem rdI_good (t : List Nat) (k a : Nat) : Good t (k + 1) a (rdI t a) := fun d b e => by
  unfold rdI at e
  split at e
  · cases e
  · rename_i h1
    split at e
    · cases e
    · cases e
      refine ⟨?_, fun m => by simp, fun _ S => rfl⟩
      have h2 : iEnd t a ≤ sk t (iEnd t a) := scan_ge
      have h3 : iStart t a ≤ iEnd t a := scan_ge
      have h4 : a ≤ iStart t a := by unfold iStart; omega
      omega
theorem rdW_good (t : List Nat) (k a : Nat) : Good t (k + 1) a (rdW t a) := fun d b e => by
  have h2 : wEnd t a ≤ sk t (wEnd t a) := scan_ge
  have h3 : a ≤ wEnd t a := scan_ge
  have h5 : wW t a ≠ [] → a < wEnd t a := fun h => by
    rcases Nat.lt_or_ge a (wEnd t a) with h6 | h6
    · exact h6
    · refine absurd ?_ h
      unfold wW
      rw [show wEnd t a - a = 0 by omega]
      rfl
  unfold rdW at e
  split at e
  · rename_i hw
    cases e
    have := h5 (by rw [hw]; decide +kernel)
    exact ⟨by omega, fun m => by simp, fun _ S => trivial⟩
  · split at e
    · rename_i hw
      cases e
      have := h5 (by rw [hw]; decide +kernel)
      exact ⟨by omega, fun m => by simp, fun _ S => rfl⟩
    · split at e
      · rename_i hw
        cases e
        have := h5 (by rw [hw]; decide +kernel)
        exact ⟨by omega, fun m => by simp, fun _ S => rfl⟩
      · cases e
theorem rdL_good {t : List Nat} (h : okT t = true) (k a : Nat) : Good t (k + 1) a (rdL t a) := by
  unfold rdL
  split
  · intro d b e
    obtain ⟨h1, h2, h3⟩ := rdQ_good h k (t.length + 1) (a + 1) [] (by decide) d b e
    exact ⟨by omega, h2, h3⟩
  · split
    · exact rdI_good t k a
    · exact rdW_good t k a
theorem rdT_good {t : List Nat} {rd : Nat → Rd} {k : Nat} (h : ∀ a, Good t k a (rd a)) : ∀ (n a : Nat) (l : List D), (∀ m, D.belL m l) → (t.length ≤ 1000 → ∀ S, ∀ x ∈ l, SameP S k x x) → l.length ≤ a → Good t (k + 1) a (rdT rd t n a l)
  | 0, a, l, h1, h2, h3 => fun d b e => by unfold rdT at e; cases e
  | n + 1, a, l, h1, h2, h3 => fun d b e => by
    unfold rdT at e
    split at e
    · rename_i ht
      cases e
      have hl := (List.getElem?_eq_some_iff.mp ht).1
      refine ⟨?_, fun m => by rw [bel_tup]; exact h1 m, fun hz S => ⟨by omega, ?_⟩⟩
      · have : a + 1 ≤ sk t (a + 1) := scan_ge
        omega
      · have : ∀ {xs : List D}, (∀ x ∈ xs, SameP S k x x) → sameL (SameP S k) xs xs := by
          intro xs
          induction xs with
          | nil => intro _; trivial
          | cons x xs ih => intro hx; exact ⟨hx x (by simp), ih fun y hy => hx y (by simp [hy])⟩
        exact this (h2 hz S)
    · split at e
      · cases e
      · rename_i d1 b1 e1
        obtain ⟨g1, g2, g3⟩ := h a d1 b1 e1
        obtain ⟨r1, r2, r3⟩ := rdT_good h n b1 (l ++ [d1]) (fun m => belL_of fun x hx => by
          have := h1 m
          rcases List.mem_append.mp hx with hx | hx
          · have go : ∀ {l : List D}, D.belL m l → x ∈ l → D.bel m x := by
              intro l
              induction l with
              | nil => intro _ hx; cases hx
              | cons y l ih =>
                intro hl hx
                rw [belL_cons] at hl
                rcases List.mem_cons.mp hx with hx | hx
                · rw [hx]; exact hl.1
                · exact ih hl.2 hx
            exact go this hx
          · rw [List.mem_singleton.mp hx]; exact g2 m) (fun hz S x hx => by
          rcases List.mem_append.mp hx with hx | hx
          · exact h2 hz S x hx
          · rw [List.mem_singleton.mp hx]; exact g3 hz S) (by rw [List.length_append, List.length_singleton]; omega) d b e
        exact ⟨by omega, r2, r3⟩
theorem rdV_good {t : List Nat} (h : okT t = true) : ∀ (n a : Nat), Good t (n + 1) a (rdV t n a)
  | 0, a => by
    unfold rdV
    split
    · intro d b e; cases e
    · exact rdL_good h 0 a
  | n + 1, a => by
    unfold rdV
    split
    · intro d b e
      have hs : a + 1 ≤ sk t (a + 1) := scan_ge
      obtain ⟨h1, h2, h3⟩ := rdT_good (fun a => rdV_good h n a) (t.length + 1) (sk t (a + 1)) [] (fun m => by simp) (fun _ _ x hx => by cases hx) (by simp) d b e
      exact ⟨by omega, h2, h3⟩
    · exact rdL_good h (n + 1) a
theorem rdV_end {t : List Nat} (n a : Nat) (h : t.length ≤ a) : rdV t n a = .no a := by
  have e : t[a]? = none := List.getElem?_eq_none h
  have h1 : wEnd t a = a := scan_end h
  have hw : wW t a = [] := by unfold wW; rw [h1, Nat.sub_self]; rfl
  rw [rdV_eq, e, if_neg (by simp)]
  unfold rdL
  rw [e, if_neg (by simp), if_neg (by simp [numC])]
  unfold rdW
  rw [hw, if_neg (by decide +kernel), if_neg (by decide +kernel), if_neg (by decide +kernel)]
/-! ### the program's reader -/
open Classical in
noncomputable def m_value_at (n : Nat) : List D → List Cell → Res D := fun ds S => match ds with
  | [.str t, .int a, .int k] => if 0 ≤ a ∧ 0 ≤ k ∧ k ≤ 20 ∧ 21 ≤ k.toNat + n ∧ tOk t then resRd S (rdV t (20 - k.toNat) a.toNat) else .stk
  | _ => .stk
open Classical in
noncomputable def m_tuple_at (n : Nat) : List D → List Cell → Res D := fun ds S => match ds with
  | [.str t, .int a, .int k] => if 0 ≤ a ∧ 0 ≤ k ∧ k ≤ 20 ∧ 20 ≤ k.toNat + n ∧ tOk t then resRd S (tupV t (20 - k.toNat) a.toNat) else .stk
  | _ => .stk
theorem ref_rd {r : Rd} {S : List Cell} {b : ResS} {sd : Sl} (hg : ∀ d a, r = .yes d a → ∀ m, D.bel m d) (h : b = (resRd S r).thenS sd fun d S1 => .rt d S1) : RefR S (resRd S r) b := by
  subst h
  cases r with
  | yes d a => exact ref_pure0 (by simp; exact hg d a rfl _) rfl
  | no p => exact ref_exc (sd' := sd) fail_bel rfl
theorem ref_excJ {S junk : List Cell} {x : Ex} {b : ResS} {sd' : Sl} (hd : D.belL S.length (x.fs.map (·.2))) (h : b = .exc x sd' (S ++ junk)) : RefR S (.exc x S) b :=
  ⟨Nat.le_refl _, hd, fun c hc => .inl hc, junk, sd', h⟩
abbrev tT : MT := (mTst (mBin oNe (mSlice (mVar 0) (mPart (mVar 1)) (mPart (mBin oAdd (mVar 1) (mC (.int 1))))) (mC (.str (cs ")")))))
abbrev tB (r_value_at : List D → List Cell → Res D) : MS := (mSeq (mAsg (gTupD 2 (gsCons (gN 4) (gsCons (gN 1) gsNil))) (mCall r_value_at (mCons (mVar 0) (mCons (mVar 1) (mCons (mBin oAdd (mVar 2) (mC (.int 1))) mNil)))))
    (mExpr (mAppend (mVar 3) (mVar 4))))
abbrev bTuple (r_value_at : List D → List Cell → Res D) : MS := (mSeq (mIf (mTst (mBin oEq (mVar 2) (mC (.int 20))))
  (mRaise "InvalidText" ns_InvalidText (mVar 1))
  mNext)
  (mSeq (mPar 3 1 (mCons (mLst mNil) (mCons (mCall m_skipped (mCons (mVar 0) (mCons (mBin oAdd (mVar 1) (mC (.int 1))) mNil))) mNil)))
  (mSeq (mWhile whN tT (tB r_value_at))
  (mRet (mTup (mCons (mB oTupC (mCons (mVar 3) mNil)) (mCons (mCall m_skipped (mCons (mVar 0) (mCons (mBin oAdd (mVar 1) (mC (.int 1))) mNil))) mNil)))))))
theorem csr : cs ")" = [41] := by decide +kernel
theorem csl : cs "(" = [40] := by decide +kernel
theorem o41 : okT [41] = true := by decide
theorem tst_at {t : List Nat} {S : List Cell} {a : Nat} {sd : Sl} (h : tOk t) (h0 : sd[0]? = some (some (.str t))) (h1 : sd[1]? = some (some (.int (a : Nat)))) : tT sd S = .ok (t[a]? != some 41) S := by
  have hz : t.length ≤ sizeLine := line_le (by have := h.1; omega)
  cases e : t[a]? with
  | none =>
    have c := cut_none (List.getElem?_eq_none_iff.mp e)
    simp [tT, h0, h1, oSl, hz, c, csr, ne_str on o41]
    rfl
  | some c =>
    have c1 := cut_one e
    simp [tT, h0, h1, oSl, hz, c1, csr, ne_str (okT_at h.2 e) o41]
    by_cases hc : c = 41
    · subst hc; rfl
    · simp [hc, bne]
abbrev sl5 (t : List Nat) (a : Nat) (k : Int) (n : Nat) (x : Option D) : Sl := [some (.str t), some (.int (a : Nat)), some (.int k), some (.loc n), x]
theorem set_last {S : List Cell} {x y : Cell} : (S ++ [x]).set S.length y = S ++ [y] := by
  simp [List.set_append]
theorem t_yes {t : List Nat} {S : List Cell} {a b : Nat} {k : Int} {x : Option D} {acc : List D} {d : D} {r : List D → List Cell → Res D} (hr : r [.str t, .int (a : Nat), .int (k + 1)] (S ++ [.lst acc]) = resRd (S ++ [.lst acc]) (.yes d b)) (hz : acc.length ≤ 100000) :
    tB r (sl5 t a k S.length x) (S ++ [.lst acc]) = .nx (sl5 t b k S.length (some d)) (S ++ [.lst (acc ++ [d])]) := by
  have hz' : acc.length < sizeLine := by have : acc.length + 1 ≤ sizeLine := line_le (by omega); omega
  simp [tB, sl5, hr, resRd, hz', set_last]
theorem t_no {t : List Nat} {S : List Cell} {a p : Nat} {k : Int} {x : Option D} {r : List D → List Cell → Res D} (hr : r [.str t, .int (a : Nat), .int (k + 1)] S = resRd S (.no p)) (n : Nat) :
    tB r (sl5 t a k n x) S = .exc (fail p) (sl5 t a k n x) S := by
  simp [tB, sl5, hr, resRd]
theorem t_loop {t : List Nat} {S : List Cell} (h : tOk t) {k : Int} {r : List D → List Cell → Res D} {rd : Nat → Rd} (hr : ∀ (a : Nat) S, r [.str t, .int (a : Nat), .int (k + 1)] S = resRd S (rd a)) (hg : ∀ a d b, rd a = .yes d b → a < b) (he : ∀ a, t.length ≤ a → rd a = .no a) :
    ∀ (n M a : Nat) (acc : List D) (x : Option D), n < M → t.length + 1 ≤ a + n → acc.length ≤ a →
    match rdT rd t n a acc with
    | .yes d b => ∃ a' acc' x', d = .tup acc' ∧ b = sk t (a' + 1) ∧ acc'.length ≤ t.length ∧ whGo tT (tB r) M (sl5 t a k S.length x) (S ++ [.lst acc]) = .nx (sl5 t a' k S.length x') (S ++ [.lst acc'])
    | .no p => ∃ x' acc', whGo tT (tB r) M (sl5 t a k S.length x) (S ++ [.lst acc]) = .exc (fail p) x' (S ++ [.lst acc'])
  | 0, M + 1, a, acc, x, _, ha, hf => by
    have e : t[a]? = none := List.getElem?_eq_none (by omega)
    unfold rdT whGo
    exact ⟨sl5 t a k S.length x, acc, by rw [tst_at (a := a) h rfl rfl, e, thenS_ok, if_pos (show (none != some (41 : Nat)) = true from rfl), t_no (p := a) (by rw [hr, he a (by omega)])]⟩
  | n + 1, M + 1, a, acc, x, hm, ha, hf => by
    unfold rdT whGo
    rw [tst_at (a := a) h rfl rfl]
    simp only [thenS_ok]
    by_cases hc : t[a]? = some 41
    · have hl := (List.getElem?_eq_some_iff.mp hc).1
      rw [if_pos hc, hc]
      exact ⟨a, acc, x, rfl, rfl, by omega, rfl⟩
    · have hne : (t[a]? != some 41) = true := by simp [hc]
      rw [if_neg hc, hne, if_pos rfl]
      cases hv : rd a with
      | no p =>
        simp only
        rw [t_no (p := p) (by rw [hr, hv])]
        exact ⟨_, acc, rfl⟩
      | yes d b =>
        have hab := hg a d b hv
        have hlt : a < t.length := by
          rcases Nat.lt_or_ge a t.length with h1 | h1
          · exact h1
          · rw [he a h1] at hv; cases hv
        simp only
        rw [t_yes (d := d) (b := b) (by rw [hr, hv]) (by have := h.1; omega)]
        exact t_loop h hr hg he n M b (acc ++ [d]) _ (by omega) (by omega) (by rw [List.length_append, List.length_singleton]; omega)
theorem ref_tuple_at (n : Nat) (ds : List D) (S : List Cell) (hl : ds.length = 3) (b : MS) (hb : b = bTuple (m_value_at n)) : RefR S (m_tuple_at n ds S) (b (startD 5 ds) S) := by
  subst hb
  unfold m_tuple_at
  split
  · rename_i t a k
    split
    · rename_i hc
      obtain ⟨a0, k0, k20, kn, tok⟩ := hc
      obtain ⟨a, rfl⟩ := Int.eq_ofNat_of_zero_le a0
      obtain ⟨k, rfl⟩ := Int.eq_ofNat_of_zero_le k0
      rw [Int.toNat_natCast, Int.toNat_natCast]
      rw [Int.toNat_natCast] at kn
      have hsl : startD 5 [D.str t, .int (a : Nat), .int (k : Nat)] = [some (.str t), some (.int (a : Nat)), some (.int (k : Nat)), none, none] := rfl
      rw [hsl]
      by_cases hk : k = 20
      · subst hk
        refine ref_exc (sd' := [some (.str t), some (.int (a : Nat)), some (.int (20 : Nat)), none, none]) fail_bel ?_
        simp [bTuple, fail]
      · have hk' : 20 - k = (19 - k) + 1 := by omega
        have hb : (((k : Nat) : Int) == 20) = false := by simp; omega
        rw [hk']
        show RefR S (resRd S (rdT (rdV t (19 - k)) t (t.length + 1) (sk t (a + 1)) [])) _
        have hr : ∀ (a : Nat) S, m_value_at n [.str t, .int (a : Nat), .int ((k : Int) + 1)] S = resRd S (rdV t (19 - k) a) := fun a S => by
          unfold m_value_at
          simp only
          have e1 : ((k : Int) + 1).toNat = k + 1 := by omega
          rw [e1, if_pos ⟨by omega, by omega, by omega, by omega, tok⟩, Int.toNat_natCast, show 20 - (k + 1) = 19 - k by omega]
        have L := t_loop (S := S) tok hr (fun a d b e => (rdV_good tok.2 _ a d b e).1) (fun a ha => rdV_end _ a ha) (t.length + 1) whN (sk t (a + 1)) [] none (by have := tok.1; unfold whN; omega) (by omega) (by simp)
        have z0 : 0 ≤ sizeLine := Nat.zero_le _
        cases hv : rdT (rdV t (19 - k)) t (t.length + 1) (sk t (a + 1)) [] with
        | yes d b =>
          have hbel := (rdT_good (fun a => rdV_good tok.2 (19 - k) a) (t.length + 1) (sk t (a + 1)) [] (fun m => by simp) (fun _ _ x hx => by cases hx) (by simp) d b hv).2.1
          rw [hv] at L
          obtain ⟨a', acc', x', rfl, rfl, hz, e⟩ := L
          refine ref_pure (junk := [.lst acc']) (by simp only [bel_tup, belL_cons, belL_nil, bel_int, and_true]; exact bel_tup.mp (hbel _)) ?_
          have e' : whGo tT (tB (m_value_at n)) whN [some (.str t), some (.int ((sk t (a + 1) : Nat) : Int)), some (.int (k : Nat)), some (.loc S.length), none] (S ++ [.lst []]) = .nx (sl5 t a' k S.length x') (S ++ [.lst acc']) := e
          simp only [bTuple, mSeq_ev, mIf_ev, mTst_ev, mBin_ev, mVar_ev, mC_ev, bind_ok, thenS_ok, List.getElem?_cons_succ, List.getElem?_cons_zero, oEq_int, hb, blD_bl, optR_some, Bool.false_eq_true, if_false, mNext_ev, mPar_ev, mCons_ev, mLst_ev, mNil_ev, mCall_ev, oAdd_int, List.length_nil, z0, if_true, m_skipped_ok1 tok, List.set_cons_succ, List.set_cons_zero, mWhile_ev, e']
          simp [sl5, m_skipped_ok1 tok, z2, oTupC]
        | no p =>
          rw [hv] at L
          obtain ⟨x', acc', e⟩ := L
          refine ref_excJ (junk := [.lst acc']) (sd' := x') fail_bel ?_
          have e' : whGo tT (tB (m_value_at n)) whN [some (.str t), some (.int ((sk t (a + 1) : Nat) : Int)), some (.int (k : Nat)), some (.loc S.length), none] (S ++ [.lst []]) = .exc (fail p) x' (S ++ [.lst acc']) := e
          simp only [bTuple, mSeq_ev, mIf_ev, mTst_ev, mBin_ev, mVar_ev, mC_ev, bind_ok, thenS_ok, List.getElem?_cons_succ, List.getElem?_cons_zero, oEq_int, hb, blD_bl, optR_some, Bool.false_eq_true, if_false, mNext_ev, mPar_ev, mCons_ev, mLst_ev, mNil_ev, mCall_ev, oAdd_int, List.length_nil, z0, if_true, m_skipped_ok1 tok, List.set_cons_succ, List.set_cons_zero, mWhile_ev, e']
    · trivial
  · trivial
end K80

namespace K80
open PySem PySem.Spec PyProof.Rows L2 Fx
/-! ### value_at -/
theorem csa : cs "a" = [97] := by decide +kernel
theorem csz : cs "z" = [122] := by decide +kernel
theorem csN : cs "none" = [110, 111, 110, 101] := by decide +kernel
theorem csT : cs "true" = [116, 114, 117, 101] := by decide +kernel
theorem csF : cs "false" = [102, 97, 108, 115, 101] := by decide +kernel
theorem oN : okT (cs "none") = true := by decide +kernel
theorem oT : okT (cs "true") = true := by decide +kernel
theorem oF : okT (cs "false") = true := by decide +kernel
theorem o40 : okT [40] = true := by decide
theorem o39 : okT [39] = true := by decide
theorem o45 : okT [45] = true := by decide
abbrev vT : MT := (mTst (mChain oLe oLe (mC (.str (cs "a"))) (mSlice (mVar 0) (mPart (mVar 4)) (mPart (mBin oAdd (mVar 4) (mC (.int 1))))) (mC (.str (cs "z")))))
noncomputable abbrev vF : MS := (mFor (mSeqI (mTup (mCons (mTup (mCons (mC (.str (cs "none"))) (mCons (mC .non) mNil))) (mCons (mTup (mCons (mC (.str (cs "true"))) (mCons (mC (.bl true)) mNil))) (mCons (mTup (mCons (mC (.str (cs "false"))) (mCons (mC (.bl false)) mNil))) mNil))))) (gTupD 2 (gsCons (gN 5) (gsCons (gN 6) gsNil)))
  (mIf (mTst (mBin oEq (mSlice (mVar 0) (mPart (mVar 1)) (mPart (mVar 4))) (mVar 5)))
    (mRet (mTup (mCons (mVar 6) (mCons (mCall m_skipped (mCons (mVar 0) (mCons (mVar 4) mNil))) mNil))))
    mNext))
noncomputable abbrev vW : MS := (mSeq (mSet 4 (mVar 1))
  (mSeq (mWhile whN vT
  (mAug 4 oAddS (mC (.int 1))))
  (mSeq vF
  (mRaise "InvalidText" ns_InvalidText (mVar 1)))))
noncomputable abbrev bValue (r_tuple_at : List D → List Cell → Res D) : MS := (mSeq (mSet 3 (mSlice (mVar 0) (mPart (mVar 1)) (mPart (mBin oAdd (mVar 1) (mC (.int 1))))))
  (mSeq (mIf (mTst (mBin oEq (mVar 3) (mC (.str (cs "(")))))
  (mRet (mCall r_tuple_at (mCons (mVar 0) (mCons (mVar 1) (mCons (mVar 2) mNil)))))
  mNext)
  (mSeq (mIf (mTst (mBin oEq (mVar 3) (mC (.str (cs "'")))))
  (mRet (mCall m_quote_at (mCons (mVar 0) (mCons (mBin oAdd (mVar 1) (mC (.int 1))) mNil))))
  mNext)
  (mSeq (mIf (mOr (mTst (mBin oEq (mVar 3) (mC (.str (cs "-"))))) (mTst (mChain oLe oLe (mC (.str (cs "0"))) (mVar 3) (mC (.str (cs "9"))))))
  (mRet (mCall m_integer_at (mCons (mVar 0) (mCons (mVar 1) mNil))))
  mNext)
  vW))))
abbrev sl7v (t : List Nat) (a : Nat) (k : Int) (x y z u : Option D) : Sl := [some (.str t), some (.int (a : Nat)), some (.int k), x, y, z, u]
theorem wd_go {t : List Nat} {S : List Cell} {k : Nat} {kk : Int} {x z u : Option D} {a c : Nat} (ht : t.length ≤ 100000) (h : t[a]? = some c) : vT (sl7v t k kk x (some (.int (a : Nat))) z u) S = .ok (wrdC c) S := by
  have hz : t.length ≤ sizeLine := line_le (by omega)
  have e := cut_one h
  by_cases h1 : 97 ≤ c
  · have d1 : decide (c < 97) = false := decide_eq_false (by omega)
    by_cases h2 : c ≤ 122
    · have d2 : decide (122 < c) = false := decide_eq_false (by omega)
      simp [vT, oSl, hz, e, csa, csz, lt_one, d1, d2, wrdC, h1, h2]
    · have d2 : decide (122 < c) = true := decide_eq_true (by omega)
      simp [vT, oSl, hz, e, csa, csz, lt_one, d1, d2, wrdC, h1, h2]
  · have d1 : decide (c < 97) = true := decide_eq_true (by omega)
    simp [vT, oSl, hz, e, csa, csz, lt_one, d1, wrdC, h1]
theorem wd_end {t : List Nat} {S : List Cell} {k : Nat} {kk : Int} {x z u : Option D} {a : Nat} (ht : t.length ≤ 100000) (h : t.length ≤ a) : vT (sl7v t k kk x (some (.int (a : Nat))) z u) S = .ok false S := by
  have hz : t.length ≤ sizeLine := line_le (by omega)
  have e := cut_none h
  simp [vT, oSl, hz, e, csa, csz, lt_nil]
theorem okT_take {t : List Nat} (h : okT t = true) (i j : Nat) : okT ((t.drop i).take j) = true := by
  unfold okT at h ⊢
  rw [List.all_eq_true] at h ⊢
  exact fun c hc => h c (List.mem_of_mem_drop (List.mem_of_mem_take hc))
/-- the words -/
theorem v_words {t : List Nat} {S : List Cell} {a : Nat} {k : Int} {x y z u : Option D} (h : tOk t) : ∃ sd, vW (sl7v t a k x y z u) S = (resRd S (rdW t a)).thenS sd fun d S1 => .rt d S1 := by
  have hz : t.length ≤ sizeLine := line_le (by have := h.1; omega)
  have wh := wh_scan (p := wrdC) (t := t) (T := vT) (B := mAug 4 oAddS (mC (.int 1))) (S := S) (sdf := fun b => sl7v t a k x (some (.int (b : Nat))) z u)
    (fun b c hc => wd_go h.1 hc) (fun b ha => wd_end h.1 ha) (fun b _ => by simp [oAddS]) whN a (by have := h.1; unfold whN; omega)
  have wh' : whGo vT (mAug 4 oAddS (mC (.int 1))) whN [some (.str t), some (.int (a : Nat)), some (.int k), x, some (.int (a : Nat)), z, u] S = .nx [some (.str t), some (.int (a : Nat)), some (.int k), x, some (.int (wEnd t a : Nat)), z, u] S := wh
  have hw : a ≤ wEnd t a := scan_ge
  have ec : cutG t (some (a : Int)) (some ((wEnd t a : Nat) : Int)) = wW t a := cut_ab hw
  have ow : okT (wW t a) = true := okT_take h.2 _ _
  have ms := m_skipped_ok (a := wEnd t a) (S := S) h
  have z3 : 3 ≤ sizeLine := line_le (by omega)
  have z2 := z2
  by_cases h1 : wW t a = cs "none"
  · have er : rdW t a = .yes .non (sk t (wEnd t a)) := by unfold rdW; rw [if_pos h1]
    have b1 : (wW t a == cs "none") = true := by rw [h1]; exact beq_self_eq_true _
    refine ⟨[], ?_⟩
    simp only [vW, mSeq_ev, mSet_ev, mVar_ev, thenS_ok, List.getElem?_cons_succ, List.getElem?_cons_zero, List.set_cons_succ, List.set_cons_zero, mWhile_ev, wh']
    simp [vF, z2, z3, forGo, ItD.okAt, oSl, hz, ec, eq_str ow oN, b1, ms, er, resRd]
  · have b1 : (wW t a == cs "none") = false := by simpa using h1
    by_cases h2 : wW t a = cs "true"
    · have er : rdW t a = .yes (.bl true) (sk t (wEnd t a)) := by unfold rdW; rw [if_neg h1, if_pos h2]
      have b2 : (wW t a == cs "true") = true := by rw [h2]; exact beq_self_eq_true _
      refine ⟨[], ?_⟩
      simp only [vW, mSeq_ev, mSet_ev, mVar_ev, thenS_ok, List.getElem?_cons_succ, List.getElem?_cons_zero, List.set_cons_succ, List.set_cons_zero, mWhile_ev, wh']
      simp [vF, z2, z3, forGo, ItD.okAt, oSl, hz, ec, eq_str ow oN, eq_str ow oT, b1, b2, ms, er, resRd]
    · have b2 : (wW t a == cs "true") = false := by simpa using h2
      by_cases h3 : wW t a = cs "false"
      · have er : rdW t a = .yes (.bl false) (sk t (wEnd t a)) := by unfold rdW; rw [if_neg h1, if_neg h2, if_pos h3]
        have b3 : (wW t a == cs "false") = true := by rw [h3]; exact beq_self_eq_true _
        refine ⟨[], ?_⟩
        simp only [vW, mSeq_ev, mSet_ev, mVar_ev, thenS_ok, List.getElem?_cons_succ, List.getElem?_cons_zero, List.set_cons_succ, List.set_cons_zero, mWhile_ev, wh']
        simp [vF, z2, z3, forGo, ItD.okAt, oSl, hz, ec, eq_str ow oN, eq_str ow oT, eq_str ow oF, b1, b2, b3, ms, er, resRd]
      · have er : rdW t a = .no a := by unfold rdW; rw [if_neg h1, if_neg h2, if_neg h3]
        have b3 : (wW t a == cs "false") = false := by simpa using h3
        refine ⟨[some (.str t), some (.int (a : Nat)), some (.int k), x, some (.int (wEnd t a : Nat)), some (.str (cs "false")), some (.bl false)], ?_⟩
        simp only [vW, mSeq_ev, mSet_ev, mVar_ev, thenS_ok, List.getElem?_cons_succ, List.getElem?_cons_zero, List.set_cons_succ, List.set_cons_zero, mWhile_ev, wh']
        simp [vF, z2, z3, forGo, ItD.okAt, oSl, hz, ec, eq_str ow oN, eq_str ow oT, eq_str ow oF, b1, b2, b3, er, resRd, fail]
theorem ref_value_at (n : Nat) (ds : List D) (S : List Cell) (hl : ds.length = 3) (b : MS) (hb : b = bValue (m_tuple_at n)) : RefR S (m_value_at (n + 1) ds S) (b (startD 7 ds) S) := by
  subst hb
  unfold m_value_at
  split
  · rename_i t a k
    split
    · rename_i hc
      obtain ⟨a0, k0, k20, kn, tok⟩ := hc
      obtain ⟨a, rfl⟩ := Int.eq_ofNat_of_zero_le a0
      obtain ⟨k, rfl⟩ := Int.eq_ofNat_of_zero_le k0
      rw [Int.toNat_natCast, Int.toNat_natCast]
      rw [Int.toNat_natCast] at kn
      have hz : t.length ≤ sizeLine := line_le (by have := tok.1; omega)
      have hsl : startD 7 [D.str t, .int (a : Nat), .int (k : Nat)] = [some (.str t), some (.int (a : Nat)), some (.int (k : Nat)), none, none, none, none] := rfl
      rw [hsl]
      cases e : t[a]? with
      | none =>
        have hla := List.getElem?_eq_none_iff.mp e
        have c1 := cut_none hla
        obtain ⟨sd, hw⟩ := v_words (S := S) (a := a) (k := k) (x := some (.str [])) (y := none) (z := none) (u := none) tok
        have er : rdV t (20 - k) a = rdW t a := by
          rw [rdV_eq, e, if_neg (by simp)]
          unfold rdL
          rw [e, if_neg (by simp), if_neg (by simp [numC])]
        rw [er]
        refine ref_rd (sd := sd) (fun d p hr => (rdW_good t 0 a d p hr).2.1) ?_
        rw [← hw]
        have n40 : (([] : List Nat) == [40]) = false := rfl
        have n39 : (([] : List Nat) == [39]) = false := rfl
        have n45 : (([] : List Nat) == [45]) = false := rfl
        simp only [bValue, mSeq_ev, mSet_ev, mSlice_ev, mPart_ev, mBin_ev, mVar_ev, mC_ev, bind_ok, thenS_ok, List.getElem?_cons_succ, List.getElem?_cons_zero, List.set_cons_succ, List.set_cons_zero, intD_int, oAdd_int, oSl, hz, if_true, c1, mIf_ev, mTst_ev, csl, csq, csm, cs0, cs9, eq_str on o40, eq_str on o39, eq_str on o45, n40, n39, n45, blD_bl, optR_some, Bool.false_eq_true, if_false, mNext_ev, mOr_ev, mChain_ev, oLe_str, lt_nil, Bool.not_true]
      | some c =>
        have c1 := cut_one e
        have oc := okT_at tok.2 e
        by_cases h40 : c = 40
        · subst h40
          have er : rdV t (20 - k) a = tupV t (20 - k) a := by rw [rdV_eq, e, if_pos rfl]
          have hm : m_tuple_at n [.str t, .int (a : Nat), .int (k : Nat)] S = resRd S (tupV t (20 - k) a) := by
            unfold m_tuple_at
            simp only
            rw [Int.toNat_natCast, Int.toNat_natCast, if_pos ⟨a0, k0, k20, by omega, tok⟩]
          rw [← er] at hm
          refine ref_rd (sd := [some (.str t), some (.int (a : Nat)), some (.int (k : Nat)), some (.str [40]), none, none, none]) (fun d p hr => (rdV_good tok.2 _ a d p hr).2.1) ?_
          cases hq : rdV t (20 - k) a <;> rw [hq] at hm <;> simp [bValue, oSl, hz, c1, csl, eq_str o40 o40, hm, resRd]
        · have n40 : (([c] : List Nat) == [40]) = false := by simp [h40]
          have er : rdV t (20 - k) a = rdL t a := by rw [rdV_eq, e, if_neg (by simp [h40])]
          rw [er]
          by_cases h39 : c = 39
          · subst h39
            have er2 : rdL t a = rdQ t (t.length + 1) (a + 1) [] := by unfold rdL; rw [e, if_pos rfl]
            have hm : m_quote_at [.str t, .int ((a : Int) + 1)] S = resRd S (rdL t a) := by
              unfold m_quote_at
              simp only
              rw [if_pos ⟨by omega, tok⟩, er2]
              rfl
            refine ref_rd (sd := [some (.str t), some (.int (a : Nat)), some (.int (k : Nat)), some (.str [39]), none, none, none]) (fun d p hr => (rdL_good tok.2 0 a d p hr).2.1) ?_
            cases hq : rdL t a <;> rw [hq] at hm <;> simp [bValue, oSl, hz, c1, csl, csq, eq_str oc o40, n40, eq_str o39 o39, hm, resRd]
          · have n39 : (([c] : List Nat) == [39]) = false := by simp [h39]
            have hla := (List.getElem?_eq_some_iff.mp e).1
            by_cases hn : numC (some c) = true
            · have er2 : rdL t a = rdI t a := by unfold rdL; rw [e, if_neg (by simp [h39]), if_pos hn]
              have hm : m_integer_at [.str t, .int (a : Nat)] S = resRd S (rdL t a) := by
                unfold m_integer_at
                simp only
                rw [Int.toNat_natCast, if_pos ⟨a0, hla, tok⟩, er2]
              refine ref_rd (sd := [some (.str t), some (.int (a : Nat)), some (.int (k : Nat)), some (.str [c]), none, none, none]) (fun d p hr => (rdL_good tok.2 0 a d p hr).2.1) ?_
              by_cases h45 : c = 45
              · subst h45
                cases hq : rdL t a <;> rw [hq] at hm <;> simp [bValue, oSl, hz, c1, csl, csq, csm, eq_str oc o40, n40, eq_str oc o39, n39, eq_str oc o45, hm, resRd]
              · have n45 : (([c] : List Nat) == [45]) = false := by simp [h45]
                have hd : 48 ≤ c ∧ c ≤ 57 := by
                  unfold numC digC at hn
                  simpa [h45] using hn
                have d1 : decide (c < 48) = false := decide_eq_false (by omega)
                have d2 : decide (57 < c) = false := decide_eq_false (by omega)
                cases hq : rdL t a <;> rw [hq] at hm <;> simp [bValue, oSl, hz, c1, csl, csq, csm, cs0, cs9, eq_str oc o40, n40, eq_str oc o39, n39, eq_str oc o45, n45, lt_one, d1, d2, hm, resRd]
            · have er2 : rdL t a = rdW t a := by unfold rdL; rw [e, if_neg (by simp [h39]), if_neg hn]
              obtain ⟨sd, hw⟩ := v_words (S := S) (a := a) (k := k) (x := some (.str [c])) (y := none) (z := none) (u := none) tok
              rw [er2]
              refine ref_rd (sd := sd) (fun d p hr => (rdW_good t 0 a d p hr).2.1) ?_
              rw [← hw]
              have hn' : ¬ c = 45 ∧ (c < 48 ∨ 57 < c) := by
                unfold numC digC at hn
                simp at hn
                omega
              have n45 : (([c] : List Nat) == [45]) = false := by simp [hn'.1]
              by_cases d1 : c < 48
              · have d1' : decide (c < 48) = true := decide_eq_true d1
                simp only [bValue, mSeq_ev, mSet_ev, mSlice_ev, mPart_ev, mBin_ev, mVar_ev, mC_ev, bind_ok, thenS_ok, List.getElem?_cons_succ, List.getElem?_cons_zero, List.set_cons_succ, List.set_cons_zero, intD_int, oAdd_int, oSl, hz, if_true, c1, mIf_ev, mTst_ev, csl, csq, csm, cs0, cs9, eq_str oc o40, eq_str oc o39, eq_str oc o45, n40, n39, n45, blD_bl, optR_some, Bool.false_eq_true, if_false, mNext_ev, mOr_ev, mChain_ev, oLe_str, lt_one, d1', Bool.not_true]
              · have d1' : decide (c < 48) = false := decide_eq_false d1
                have d2' : decide (57 < c) = true := decide_eq_true (by omega)
                simp only [bValue, mSeq_ev, mSet_ev, mSlice_ev, mPart_ev, mBin_ev, mVar_ev, mC_ev, bind_ok, thenS_ok, List.getElem?_cons_succ, List.getElem?_cons_zero, List.set_cons_succ, List.set_cons_zero, intD_int, oAdd_int, oSl, hz, if_true, c1, mIf_ev, mTst_ev, csl, csq, csm, cs0, cs9, eq_str oc o40, eq_str oc o39, eq_str oc o45, n40, n39, n45, blD_bl, optR_some, Bool.false_eq_true, if_false, mNext_ev, mOr_ev, mChain_ev, oLe_str, lt_one, d1', d2', Bool.not_true, Bool.not_false]
    · trivial
  · trivial
/-! ### read_shown -/
def rdS (t : List Nat) : Rd := match rdV t 20 (sk t 0) with
  | .no p => .no p
  | .yes d b => if b < t.length then .no b else .yes d b
open Classical in
noncomputable def m_read_shown : List D → List Cell → Res D := fun ds S => match ds with
  | [.str t] => if tOk t then (match rdS t with | .yes d _ => .ok d S | .no p => .exc (fail p) S) else .stk
  | _ => .stk
noncomputable abbrev bRead : MS := (mSeq (mAsg (gTupD 2 (gsCons (gN 1) (gsCons (gN 2) gsNil))) (mCall (m_value_at 21) (mCons (mVar 0) (mCons (mCall m_skipped (mCons (mVar 0) (mCons (mC (.int 0)) mNil))) (mCons (mC (.int 0)) mNil)))))
  (mSeq (mIf (mTst (mBin oLt (mVar 2) (mB oLenA (mCons (mVar 0) mNil))))
  (mRaise "InvalidText" ns_InvalidText (mVar 2))
  mNext)
  (mRet (mVar 1))))
theorem ref_read_shown (ds : List D) (S : List Cell) (hl : ds.length = 1) (b : MS) (hb : b = bRead) : RefR S (m_read_shown ds S) (b (startD 3 ds) S) := by
  subst hb
  unfold m_read_shown
  split
  · rename_i t
    split
    · rename_i tok
      have hz : t.length ≤ sizeLine := line_le (by have := tok.1; omega)
      have hsl : startD 3 [D.str t] = [some (.str t), none, none] := rfl
      have hs : m_skipped [.str t, .int 0] S = .ok (.int (sk t 0 : Nat)) S := m_skipped_ok (a := 0) tok
      have hv : m_value_at 21 [.str t, .int (sk t 0 : Nat), .int 0] S = resRd S (rdV t 20 (sk t 0)) := by
        unfold m_value_at
        simp only
        rw [if_pos ⟨by omega, by omega, by omega, by simp, tok⟩, Int.toNat_natCast]
        rfl
      rw [hsl]
      cases e : rdV t 20 (sk t 0) with
      | no p =>
        have er : rdS t = .no p := by unfold rdS; rw [e]
        rw [er]
        refine ref_exc (sd' := [some (.str t), none, none]) fail_bel ?_
        simp [bRead, hs, hv, e, resRd]
      | yes d b =>
        have hg := (rdV_good tok.2 20 (sk t 0) d b e).2.1
        by_cases hb : b < t.length
        · have er : rdS t = .no b := by unfold rdS; rw [e]; exact if_pos hb
          rw [er]
          refine ref_exc (sd' := [some (.str t), some d, some (.int (b : Nat))]) fail_bel ?_
          simp [bRead, hs, hv, e, resRd, hz, hb, fail]
        · have er : rdS t = .yes d b := by unfold rdS; rw [e]; exact if_neg hb
          rw [er]
          refine ref_pure0 (hg _) ?_
          simp [bRead, hs, hv, e, resRd, hz, hb]
    · trivial
  · trivial
end K80

namespace K80
open PySem PySem.Spec PyProof.Rows L2 Fx
/-! ### skipped, _law_skip, _law_asked, _law_whole -/
theorem oIn_sign (c : Nat) (z : List Nat) (S : List Cell) : oInA (.str [c]) (.str z) S = .ok (.bl (decide (c ∈ z))) S := (rfl)
abbrev bSkipped : MS := (mSeq (mWhile whN (mAnd (mTst (mBin oLt (mVar 1) (mB oLenA (mCons (mVar 0) mNil)))) (mTst (mBin oInA (mBin oIxA (mVar 0) (mVar 1)) (mC (.str (cs " \n"))))))
  (mAug 1 oAddS (mC (.int 1))))
  (mRet (mVar 1)))
abbrev bLSkip : MS := (mSeq (mWhile whN (mAnd (mTst (mBin oNe (mSlice (mVar 0) (mPart (mVar 1)) (mPart (mBin oAdd (mVar 1) (mC (.int 1))))) (mC (.str (cs ""))))) (mTst (mBin oInA (mBin oIxA (mVar 0) (mVar 1)) (mC (.str (cs " \n"))))))
  (mSet 1 (mBin oAdd (mVar 1) (mC (.int 1)))))
  (mRet (mVar 1)))
theorem ref_skipped (ds : List D) (S : List Cell) (h : ds.length = 2) (b : MS) (hb : b = bSkipped) : RefR S (m_skipped ds S) (b (startD 2 ds) S) := by
  subst hb
  unfold m_skipped
  split
  · rename_i t a
    split
    · rename_i hc
      obtain ⟨a0, tl⟩ := hc
      obtain ⟨k, rfl⟩ := Int.eq_ofNat_of_zero_le a0
      rw [Int.toNat_natCast]
      have hz : t.length ≤ sizeLine := line_le (by omega)
      have wh := wh_scan (p := blankC) (t := t) (T := (mAnd (mTst (mBin oLt (mVar 1) (mB oLenA (mCons (mVar 0) mNil)))) (mTst (mBin oInA (mBin oIxA (mVar 0) (mVar 1)) (mC (.str (cs " \n"))))))) (B := mAug 1 oAddS (mC (.int 1))) (S := S) (sdf := fun a => [some (.str t), some (.int (a : Nat))])
        (fun a c hc => by
          obtain ⟨hl, hcc⟩ := List.getElem?_eq_some_iff.mp hc
          subst hcc
          have hd : decide ((a : Int) < (t.length : Int)) = true := by simp; exact hl
          simp [hz, hd, atI_nat', hc, oIn_sign, blankC, hl]) (fun a ha => by
          have hd : decide ((a : Int) < (t.length : Int)) = false := by simp; omega
          have hn : ¬ a < t.length := by omega
          simp [hz, hd, hn]) (fun a _ => by simp [oAddS]) whN k (by unfold whN; omega)
      have wh' : whGo (mAnd (mTst (mBin oLt (mVar 1) (mB oLenA (mCons (mVar 0) mNil)))) (mTst (mBin oInA (mBin oIxA (mVar 0) (mVar 1)) (mC (.str (cs " \n")))))) (mAug 1 oAddS (mC (.int 1))) whN [some (.str t), some (.int (k : Nat))] S = .nx [some (.str t), some (.int (sk t k : Nat))] S := wh
      refine ref_pure0 (by simp) ?_
      have hsl : startD 2 [D.str t, .int (k : Nat)] = [some (.str t), some (.int (k : Nat))] := rfl
      rw [hsl]
      simp only [bSkipped, mSeq_ev, mWhile_ev, wh']
      simp
    · trivial
  · trivial
open Classical in
noncomputable def m__law_skip : List D → List Cell → Res D := fun ds S => match ds with
  | [.str t, .int a] => if 0 ≤ a ∧ tOk t then .ok (.int (sk t a.toNat)) S else .stk
  | _ => .stk
theorem m__law_skip_ok {t : List Nat} {a : Nat} {S : List Cell} (h : tOk t) : m__law_skip [.str t, .int (a : Nat)] S = .ok (.int (sk t a : Nat)) S := by
  unfold m__law_skip
  simp only
  rw [if_pos ⟨by omega, h⟩, Int.toNat_natCast]
theorem m__law_skip_ok1 {t : List Nat} {a : Nat} {S : List Cell} (h : tOk t) : m__law_skip [.str t, .int ((a : Int) + 1)] S = .ok (.int (sk t (a + 1) : Nat)) S := m__law_skip_ok (a := a + 1) h
theorem ref__law_skip (ds : List D) (S : List Cell) (h : ds.length = 2) (b : MS) (hb : b = bLSkip) : RefR S (m__law_skip ds S) (b (startD 2 ds) S) := by
  subst hb
  unfold m__law_skip
  split
  · rename_i t a
    split
    · rename_i hc
      obtain ⟨a0, tok⟩ := hc
      obtain ⟨k, rfl⟩ := Int.eq_ofNat_of_zero_le a0
      rw [Int.toNat_natCast]
      have hz : t.length ≤ sizeLine := line_le (by have := tok.1; omega)
      have wh := wh_scan (p := blankC) (t := t) (T := (mAnd (mTst (mBin oNe (mSlice (mVar 0) (mPart (mVar 1)) (mPart (mBin oAdd (mVar 1) (mC (.int 1))))) (mC (.str (cs ""))))) (mTst (mBin oInA (mBin oIxA (mVar 0) (mVar 1)) (mC (.str (cs " \n"))))))) (B := (mSet 1 (mBin oAdd (mVar 1) (mC (.int 1))))) (S := S) (sdf := fun a => [some (.str t), some (.int (a : Nat))])
        (fun a c hc => by
          have c1 := cut_one hc
          have n1 : (([c] : List Nat) != []) = true := rfl
          simp [oSl, hz, c1, cse, ne_str (okT_at tok.2 hc) on, n1, atI_nat', hc, oIn_sign, blankC]) (fun a ha => by
          have c1 := cut_none ha
          have n1 : (([] : List Nat) != []) = false := rfl
          simp [oSl, hz, c1, cse, ne_str on on, n1]) (fun a _ => by simp) whN k (by have := tok.1; unfold whN; omega)
      have wh' : whGo (mAnd (mTst (mBin oNe (mSlice (mVar 0) (mPart (mVar 1)) (mPart (mBin oAdd (mVar 1) (mC (.int 1))))) (mC (.str (cs ""))))) (mTst (mBin oInA (mBin oIxA (mVar 0) (mVar 1)) (mC (.str (cs " \n")))))) (mSet 1 (mBin oAdd (mVar 1) (mC (.int 1)))) whN [some (.str t), some (.int (k : Nat))] S = .nx [some (.str t), some (.int (sk t k : Nat))] S := wh
      refine ref_pure0 (by simp) ?_
      have hsl : startD 2 [D.str t, .int (k : Nat)] = [some (.str t), some (.int (k : Nat))] := rfl
      rw [hsl]
      simp only [bLSkip, mSeq_ev, mWhile_ev, wh']
      simp
    · trivial
  · trivial
def tolR : Rd → D
  | .yes d _ => .tup [.str (cs "yes"), d]
  | .no p => .tup [.str (cs "no"), .int (p : Nat)]
open Classical in
noncomputable def m__law_asked : List D → List Cell → Res D := fun ds S => match ds with
  | [.str t] => if tOk t then .ok (tolR (rdS t)) S else .stk
  | _ => .stk
open Classical in
noncomputable def m__law_whole : List D → List Cell → Res D := fun ds S => match ds with
  | [.str t] => if tOk t then .ok (tolR (rdS t)) S else .stk
  | _ => .stk
def tabX : Tab := fun y n => if y = "InvalidText" then (if n = "InvalidText" then some true else if n = "ChiptrueError" then some true else none) else none
abbrev clX : List String := ["InvalidText"]
noncomputable abbrev bAsked : MS := (mTry tabX (mRet (mTup (mCons (mC (.str (cs "yes"))) (mCons (mCall m_read_shown (mCons (mVar 0) mNil)) mNil)))) [("InvalidText", some 1, (retTx (pxs1 (pxC (.str (cs "no"))) (pxs1 (pxF clX "place") pxs0)))), ("ChiptrueError", some 1, (retTx (pxs1 (pxC (.str (cs "other"))) (pxs1 (pxF clX "place") pxs0))))])
theorem rdS_bel {t : List Nat} (h : okT t = true) (m : Nat) : D.bel m (tolR (rdS t)) := by
  cases e : rdS t with
  | no p => unfold tolR; simp
  | yes d b =>
    unfold rdS at e
    split at e
    · cases e
    · rename_i d1 b1 e1
      split at e
      · cases e
      · cases e
        unfold tolR
        simp only [bel_tup, belL_cons, belL_nil, bel_str, true_and, and_true]
        exact (rdV_good h _ _ _ _ e1).2.1 m
theorem fail_place (p : Nat) : exGet "place" (fail p) = some (.int (p : Nat)) := (rfl)
theorem ref__law_asked (ds : List D) (S : List Cell) (hl : ds.length = 1) (b : MS) (hb : b = bAsked) : RefR S (m__law_asked ds S) (b (startD 2 ds) S) := by
  subst hb
  unfold m__law_asked
  split
  · rename_i t
    split
    · rename_i tok
      have hsl : startD 2 [D.str t] = [some (.str t), none] := rfl
      rw [hsl]
      refine ref_pure0 (rdS_bel tok.2 _) ?_
      have hm : m_read_shown [.str t] S = (match rdS t with | .yes d _ => .ok d S | .no p => .exc (fail p) S) := by
        unfold m_read_shown
        simp only
        rw [if_pos tok] <;> cases rdS t <;> rfl
      cases e : rdS t with
      | no p =>
        rw [e] at hm
        unfold bAsked mTry
        simp only [mRet_ev, mTup_ev, mCons_ev, mC_ev, mCall_ev, mVar_ev, mNil_ev, bind_ok, List.getElem?_cons_zero, hm, bind_exc, thenS_exc]
        have t1 : tabX (fail p).cls "InvalidText" = some true := rfl
        unfold mHd
        rw [t1]
        simp only [List.length_cons, List.length_nil]
        rw [if_pos (by omega)]
        unfold retTx pxs1 pxs0 pxC pxF
        rw [if_pos (by show "InvalidText" ∈ ["InvalidText"]; simp), fail_place]
        simp [z2, dropS, tolR]
      | yes d b =>
        rw [e] at hm
        unfold bAsked mTry
        simp [hm, z2, tolR]
    · trivial
  · trivial
def lawR : Rd → D
  | .yes d b => .tup [.str (cs "yes"), d, .int (b : Nat)]
  | .no p => .tup [.str (cs "no"), .int (p : Nat)]
open Classical in
noncomputable def m__law_read (n : Nat) : List D → List Cell → Res D := fun ds S => match ds with
  | [.str t, .int a, .int k] => if 0 ≤ a ∧ 0 ≤ k ∧ k ≤ 20 ∧ 21 ≤ k.toNat + n ∧ tOk t then .ok (lawR (rdV t (20 - k.toNat) a.toNat)) S else .stk
  | _ => .stk
noncomputable abbrev bWhole : MS := (mSeq (mSet 1 (mCall (m__law_read 21) (mCons (mVar 0) (mCons (mCall m__law_skip (mCons (mVar 0) (mCons (mC (.int 0)) mNil))) (mCons (mC (.int 0)) mNil)))))
  (mRet (mIfE (mTst (mBin oEq (mBin oIxA (mVar 1) (mC (.int 0))) (mC (.str (cs "no"))))) (mVar 1) (mIfE (mTst (mBin oLt (mBin oIxA (mVar 1) (mC (.int 2))) (mB oLenA (mCons (mVar 0) mNil)))) (mTup (mCons (mC (.str (cs "no"))) (mCons (mBin oIxA (mVar 1) (mC (.int 2))) mNil))) (mTup (mCons (mC (.str (cs "yes"))) (mCons (mBin oIxA (mVar 1) (mC (.int 1))) mNil)))))))
theorem oyes : okT (cs "yes") = true := by decide +kernel
theorem ono : okT (cs "no") = true := by decide +kernel
theorem yesno : (cs "yes" == cs "no") = false := by decide +kernel
theorem nono : (cs "no" == cs "no") = true := by decide +kernel
theorem ref__law_whole (ds : List D) (S : List Cell) (hl : ds.length = 1) (b : MS) (hb : b = bWhole) : RefR S (m__law_whole ds S) (b (startD 2 ds) S) := by
  subst hb
  unfold m__law_whole
  split
  · rename_i t
    split
    · rename_i tok
      have hz : t.length ≤ sizeLine := line_le (by have := tok.1; omega)
      have hsl : startD 2 [D.str t] = [some (.str t), none] := rfl
      rw [hsl]
      refine ref_pure0 (rdS_bel tok.2 _) ?_
      have hs : m__law_skip [.str t, .int 0] S = .ok (.int (sk t 0 : Nat)) S := m__law_skip_ok (a := 0) tok
      have hv : m__law_read 21 [.str t, .int (sk t 0 : Nat), .int 0] S = .ok (lawR (rdV t 20 (sk t 0))) S := by
        unfold m__law_read
        simp only
        rw [if_pos ⟨by omega, by omega, by omega, by simp, tok⟩, Int.toNat_natCast]
        rfl
      cases e : rdV t 20 (sk t 0) with
      | no p =>
        have er : rdS t = .no p := by unfold rdS; rw [e]
        rw [e] at hv
        simp [bWhole, hs, hv, lawR, eq_str ono ono, nono, er, tolR]
      | yes d b =>
        rw [e] at hv
        by_cases hb : b < t.length
        · have er : rdS t = .no b := by unfold rdS; rw [e]; exact if_pos hb
          simp [bWhole, hs, hv, lawR, eq_str oyes ono, yesno, er, tolR, hz, hb, z2]
        · have er : rdS t = .yes d b := by unfold rdS; rw [e]; exact if_neg hb
          simp [bWhole, hs, hv, lawR, eq_str oyes ono, yesno, er, tolR, hz, hb, z2]
    · trivial
  · trivial
end K80

namespace K80
open PySem PySem.Spec PyProof.Rows L2 Fx
/-! ### _law_read -/
theorem short_eq : t_SHORT = [([110], [10]), ([116], [9]), ([92], [92]), ([39], [39])] := by decide +kernel
theorem look_some {o v : List Nat} (h : lookT t_SHORT o = some v) : (o = [110] ∧ v = [10]) ∨ (o = [116] ∧ v = [9]) ∨ (o = [92] ∧ v = [92]) ∨ (o = [39] ∧ v = [39]) := by
  unfold lookT at h
  obtain ⟨p, h1, h2⟩ := Option.map_eq_some_iff.mp h
  have hm := List.mem_of_find?_eq_some h1
  have hx := List.find?_some h1
  have hx : p.1 = o := by simpa using hx
  rw [short_eq] at hm
  simp only [List.mem_cons, List.not_mem_nil, or_false] at hm
  rcases hm with rfl | rfl | rfl | rfl
  · exact .inl ⟨hx.symm, h2.symm⟩
  · exact .inr (.inl ⟨hx.symm, h2.symm⟩)
  · exact .inr (.inr (.inl ⟨hx.symm, h2.symm⟩))
  · exact .inr (.inr (.inr ⟨hx.symm, h2.symm⟩))
theorem look_none {o : List Nat} (h : lookT t_SHORT o = none) : o ≠ [110] ∧ o ≠ [116] ∧ o ≠ [92] ∧ o ≠ [39] := by
  refine ⟨?_, ?_, ?_, ?_⟩ <;> (rintro rfl; revert h; decide +kernel)
theorem oNotIn_str (x : List Nat) (l : List D) (S : List Cell) (h : l.all flatD = true) : oNotInA (.str x) (.tup l) S = .ok (.bl (!l.any fun y => eqF y (.str x))) S := by
  have e : inD S (.str x) (.tup l) = some (l.any fun y => eqF y (.str x)) := by
    unfold inD
    cases x with
    | nil =>
      show (if (flatD (.str []) && l.all flatD) = true then _ else _) = _
      rw [h]; rfl
    | cons c r =>
      cases r with
      | nil =>
        show (if (flatD (.str [c]) && l.all flatD) = true then _ else _) = _
        rw [h]; rfl
      | cons c2 r =>
        show (if (flatD (.str (c :: c2 :: r)) && l.all flatD) = true then _ else _) = _
        rw [h]; rfl
  show oNotIn _ _ _ = _
  unfold oNotIn
  rw [e]
def kQ : List (Key × D) := mergeD [] [(.inr (stS [92, 110]), .str [10]), (.inr (stS [92, 116]), .str [9]), (.inr (stS [92, 92]), .str [92]), (.inr (stS [92, 39]), .str [39])]
def kW : List (Key × D) := mergeD [] [(.inr (stS [110, 111, 110, 101]), .non), (.inr (stS [116, 114, 117, 101]), .bl true), (.inr (stS [102, 97, 108, 115, 101]), .bl false)]
abbrev dQ : ME := (mDict [((mC (.str (cs "\\n"))), (mC (.str (cs "\n")))), ((mC (.str (cs "\\t"))), (mC (.str (cs "\t")))), ((mC (.str (cs "\\\\"))), (mC (.str (cs "\\")))), ((mC (.str (cs "\\'"))), (mC (.str (cs "'"))))])
abbrev dW : ME := (mDict [((mC (.str (cs "none"))), (mC .non)), ((mC (.str (cs "true"))), (mC (.bl true))), ((mC (.str (cs "false"))), (mC (.bl false)))])
theorem cs_bn : cs "\\n" = [92, 110] := by decide +kernel
theorem cs_bt : cs "\\t" = [92, 116] := by decide +kernel
theorem cs_bb : cs "\\\\" = [92, 92] := by decide +kernel
theorem cs_bq : cs "\\'" = [92, 39] := by decide +kernel
theorem cs_n : cs "\n" = [10] := by decide +kernel
theorem cs_t : cs "\t" = [9] := by decide +kernel
theorem dQ_ev (sd : Sl) (S : List Cell) : dQ sd S = .ok (.loc S.length) (S ++ [.dic kQ]) := by
  unfold dQ
  rw [cs_bn, cs_bt, cs_bb, cs_bq, cs_n, cs_t, csb, csq]
  rfl
theorem dW_ev (sd : Sl) (S : List Cell) : dW sd S = .ok (.loc S.length) (S ++ [.dic kW]) := by
  unfold dW
  rw [csN, csT, csF]
  rfl
theorem ixS (S : List Cell) (kvs : List (Key × D)) (x : List Nat) : oIxA (.loc S.length) (.str x) (S ++ [.dic kvs]) = optR (getK kvs (.inr (stS x))) (S ++ [.dic kvs]) := by
  have e : dicD (S ++ [.dic kvs]) (.loc S.length) = some (S.length, kvs) := by
    unfold dicD
    simp
  unfold oIxA
  rw [e]
  rfl
theorem ne_at {t : List Nat} {S : List Cell} {a c0 : Nat} {sd : Sl} {x : List Nat} (h : tOk t) (hx : x = [c0]) (ho : okT x = true) (h0 : sd[0]? = some (some (.str t))) (h1 : sd[1]? = some (some (.int (a : Nat)))) :
    mTst (mBin oNe (mSlice (mVar 0) (mPart (mVar 1)) (mPart (mBin oAdd (mVar 1) (mC (.int 1))))) (mC (.str x))) sd S = .ok (t[a]? != some c0) S := by
  subst hx
  have hz : t.length ≤ sizeLine := line_le (by have := h.1; omega)
  cases e : t[a]? with
  | none =>
    have c := cut_none (List.getElem?_eq_none_iff.mp e)
    simp [h0, h1, oSl, hz, c, ne_str on ho]
    rfl
  | some c =>
    have c1 := cut_one e
    simp [h0, h1, oSl, hz, c1, ne_str (okT_at h.2 e) ho]
    by_cases hc : c = c0
    · subst hc; simp
    · simp [hc, bne]
abbrev sl8 (t : List Nat) (a : Nat) (k : Int) (x3 x4 x5 x6 x7 : Option D) : Sl := [some (.str t), some (.int (a : Nat)), some (.int k), x3, x4, x5, x6, x7]
abbrev lqT : MT := (mTst (mBin oNe (mSlice (mVar 0) (mPart (mVar 1)) (mPart (mBin oAdd (mVar 1) (mC (.int 1))))) (mC (.str (cs "'")))))
abbrev lqB : MS := (mSeq (mIf (mTst (mBin oGe (mVar 1) (mB oLenA (mCons (mVar 0) mNil))))
      (mRet (mTup (mCons (mC (.str (cs "no"))) (mCons (mVar 1) mNil))))
      mNext)
      (mSeq (mSet 6 (mSlice (mVar 0) (mPart (mVar 1)) (mPart (mBin oAdd (mVar 1) (mC (.int 2))))))
      (mSeq (mIf (mAnd (mTst (mBin oEq (mBin oIxA (mVar 0) (mVar 1)) (mC (.str (cs "\\"))))) (mTst (mBin oNotInA (mVar 6) (mTup (mCons (mC (.str (cs "\\n"))) (mCons (mC (.str (cs "\\t"))) (mCons (mC (.str (cs "\\\\"))) (mCons (mC (.str (cs "\\'"))) mNil))))))))
      (mRet (mTup (mCons (mC (.str (cs "no"))) (mCons (mVar 1) mNil))))
      mNext)
      (mSeq (mSet 4 (mBin oAdd (mVar 4) (mIfE (mTst (mBin oEq (mBin oIxA (mVar 0) (mVar 1)) (mC (.str (cs "\\"))))) (mBin oIxA dQ (mVar 6)) (mBin oIxA (mVar 0) (mVar 1)))))
      (mSet 1 (mBin oAdd (mVar 1) (mIfE (mTst (mBin oEq (mBin oIxA (mVar 0) (mVar 1)) (mC (.str (cs "\\"))))) (mC (.int 2)) (mC (.int 1)))))))))
theorem lq_test {t : List Nat} {S : List Cell} {a : Nat} {k : Int} {x3 x4 x5 x6 x7 : Option D} (h : tOk t) : lqT (sl8 t a k x3 x4 x5 x6 x7) S = .ok (t[a]? != some 39) S := ne_at (a := a) h csq (by rw [csq]; exact o39) rfl rfl
theorem lq_none {t : List Nat} {S : List Cell} {a : Nat} {k : Int} {x3 x4 x5 x6 x7 : Option D} (h : tOk t) (e : t[a]? = none) : lqB (sl8 t a k x3 x4 x5 x6 x7) S = .rt (lawR (.no a)) S := by
  have hz : t.length ≤ sizeLine := line_le (by have := h.1; omega)
  have hl := List.getElem?_eq_none_iff.mp e
  simp [lqB, sl8, oGe, hz, hl, z2, lawR]
theorem cut_two {t : List Nat} {a c : Nat} (e : t[a]? = some c) : cutG t (some (a : Int)) (some ((a : Int) + 2)) = c :: (t.drop (a + 1)).take 1 := by
  have := cut_nat t a 2
  rw [show ((2 : Nat) : Int) = 2 from rfl] at this
  rw [this]
  obtain ⟨hl, q⟩ := List.getElem?_eq_some_iff.mp e
  rw [List.drop_eq_getElem_cons hl, q]
  rfl
theorem lq_plain {t f : List Nat} {S : List Cell} {a c : Nat} {k : Int} {x3 x5 x6 x7 : Option D} (h : tOk t) (e : t[a]? = some c) (h1 : c ≠ 92) (hf : f.length ≤ a) :
    ∃ x6', lqB (sl8 t a k x3 (some (.str f)) x5 x6 x7) S = .nx (sl8 t (a + 1) k x3 (some (.str (f ++ [c]))) x5 x6' x7) S := by
  have hz : t.length ≤ sizeLine := line_le (by have := h.1; omega)
  have hl := (List.getElem?_eq_some_iff.mp e).1
  have hg : ¬ t.length ≤ a := by omega
  have hf2 : f.length + 1 ≤ sizeLine := line_le (by have := h.1; omega)
  have n2 : (([c] : List Nat) == [92]) = false := by simp [h1]
  refine ⟨some (.str (c :: (t.drop (a + 1)).take 1)), ?_⟩
  have d0 : decide ((t.length : Int) ≤ (a : Int)) = false := by simp; omega
  simp only [lqB, sl8, mSeq_ev, mIf_ev, mTst_ev, mBin_ev, mVar_ev, mB_ev, mCons_ev, mNil_ev, mC_ev, mSet_ev, mSlice_ev, mPart_ev, bind_ok, thenS_ok, List.getElem?_cons_succ, List.getElem?_cons_zero, oLenA_str, hz, if_true, oGe, oInt_ev, d0, blD_bl, optR_some, Bool.false_eq_true, if_false, mNext_ev, intD_int, oAdd_int, oSl, cut_two e, List.set_cons_succ, List.set_cons_zero, mAnd_ev, oIxA_str, atI_nat', e, Option.map_some, csb, eq_str (okT_at h.2 e) o92, n2, mIfE_ev, oAdd_str, List.length_singleton, hf2]
  rfl
theorem lq_bad {t : List Nat} {S : List Cell} {a : Nat} {k : Int} {x3 x4 x5 x6 x7 : Option D} (h : tOk t) (e : t[a]? = some 92) (hv : lookT t_SHORT ((t.drop (a + 1)).take 1) = none) : lqB (sl8 t a k x3 x4 x5 x6 x7) S = .rt (lawR (.no a)) S := by
  have hz : t.length ≤ sizeLine := line_le (by have := h.1; omega)
  have hl := (List.getElem?_eq_some_iff.mp e).1
  have hg : ¬ t.length ≤ a := by omega
  have z4 : 4 ≤ sizeLine := line_le (by omega)
  have n2 : (([92] : List Nat) == [92]) = true := rfl
  have d0 : decide ((t.length : Int) ≤ (a : Int)) = false := by simp; omega
  obtain ⟨h1, h2, h3, h4⟩ := look_none hv
  have na : (!([D.str [92, 110], .str [92, 116], .str [92, 92], .str [92, 39]].any fun y => eqF y (.str (92 :: (t.drop (a + 1)).take 1)))) = true := by
    simp [eqF, Ne.symm h1, Ne.symm h2, Ne.symm h3, Ne.symm h4]
  simp only [lqB, sl8, mSeq_ev, mIf_ev, mTst_ev, mBin_ev, mVar_ev, mB_ev, mCons_ev, mNil_ev, mC_ev, mSet_ev, mSlice_ev, mPart_ev, bind_ok, thenS_ok, List.getElem?_cons_succ, List.getElem?_cons_zero, oLenA_str, hz, if_true, oGe, oInt_ev, d0, blD_bl, optR_some, Bool.false_eq_true, if_false, mNext_ev, intD_int, oAdd_int, oSl, cut_two e, List.set_cons_succ, List.set_cons_zero, mAnd_ev, oIxA_str, atI_nat', e, Option.map_some, csb, eq_str (okT_at h.2 e) o92, n2,
    mTup_ev, List.length_cons, List.length_nil, Nat.zero_add, z4, cs_bn, cs_bt, cs_bb, cs_bq, oNotIn_str _ [D.str [92, 110], .str [92, 116], .str [92, 92], .str [92, 39]] S rfl, na, mRet_ev, z2]
  rfl
theorem kQ_get {o v : List Nat} (h : lookT t_SHORT o = some v) : getK kQ (.inr (stS (92 :: o))) = some (.str v) := by
  rcases look_some h with ⟨rfl, rfl⟩ | ⟨rfl, rfl⟩ | ⟨rfl, rfl⟩ | ⟨rfl, rfl⟩ <;> rfl
theorem lq_esc {t f v : List Nat} {S : List Cell} {a : Nat} {k : Int} {x3 x5 x6 x7 : Option D} (h : tOk t) (e : t[a]? = some 92) (hf : f.length ≤ a) (hv : lookT t_SHORT ((t.drop (a + 1)).take 1) = some v) :
    ∃ x6', lqB (sl8 t a k x3 (some (.str f)) x5 x6 x7) S = .nx (sl8 t (a + 2) k x3 (some (.str (f ++ v))) x5 x6' x7) (S ++ [.dic kQ]) := by
  have hz : t.length ≤ sizeLine := line_le (by have := h.1; omega)
  have hl := (List.getElem?_eq_some_iff.mp e).1
  have hg : ¬ t.length ≤ a := by omega
  have z4 : 4 ≤ sizeLine := line_le (by omega)
  have n2 : (([92] : List Nat) == [92]) = true := rfl
  have d0 : decide ((t.length : Int) ≤ (a : Int)) = false := by simp; omega
  have hf2 : f.length + v.length ≤ sizeLine := line_le (by have := (short_len hv).1; have := h.1; omega)
  have na : (!([D.str [92, 110], .str [92, 116], .str [92, 92], .str [92, 39]].any fun y => eqF y (.str (92 :: (t.drop (a + 1)).take 1)))) = false := by
    generalize (t.drop (a + 1)).take 1 = o at hv
    rcases look_some hv with ⟨rfl, rfl⟩ | ⟨rfl, rfl⟩ | ⟨rfl, rfl⟩ | ⟨rfl, rfl⟩ <;> rfl
  refine ⟨some (.str (92 :: (t.drop (a + 1)).take 1)), ?_⟩
  have hd := dQ_ev [some (.str t), some (.int (a : Nat)), some (.int k), x3, some (.str f), x5, some (.str (92 :: (t.drop (a + 1)).take 1)), x7] S
  simp only [lqB, sl8, mSeq_ev, mIf_ev, mTst_ev, mBin_ev, mVar_ev, mB_ev, mCons_ev, mNil_ev, mC_ev, mSet_ev, mSlice_ev, mPart_ev, bind_ok, thenS_ok, List.getElem?_cons_succ, List.getElem?_cons_zero, oLenA_str, hz, if_true, oGe, oInt_ev, d0, blD_bl, optR_some, Bool.false_eq_true, if_false, mNext_ev, intD_int, oAdd_int, oSl, cut_two e, List.set_cons_succ, List.set_cons_zero, mAnd_ev, oIxA_str, atI_nat', e, Option.map_some, csb, eq_str (okT_at h.2 e) o92, n2,
    mTup_ev, List.length_cons, List.length_nil, Nat.zero_add, z4, cs_bn, cs_bt, cs_bb, cs_bq, oNotIn_str _ [D.str [92, 110], .str [92, 116], .str [92, 92], .str [92, 39]] S rfl, na, mIfE_ev, dQ_ev, ixS, kQ_get hv, oAdd_str, hf2]
  rfl
theorem lq_loop {t : List Nat} {k : Int} {x3 x5 x7 : Option D} (h : tOk t) : ∀ (n M a : Nat) (f : List Nat) (x6 : Option D) (S : List Cell), n < M → t.length + 1 ≤ a + n → f.length ≤ a →
    match rdQ t n a f with
    | .yes d b => ∃ a' f' x6' J, d = .str f' ∧ b = sk t (a' + 1) ∧ whGo lqT lqB M (sl8 t a k x3 (some (.str f)) x5 x6 x7) S = .nx (sl8 t a' k x3 (some (.str f')) x5 x6' x7) (S ++ J)
    | .no p => ∃ J, whGo lqT lqB M (sl8 t a k x3 (some (.str f)) x5 x6 x7) S = .rt (lawR (.no p)) (S ++ J)
  | 0, M + 1, a, f, x6, S, _, ha, hf => by
    have e : t[a]? = none := List.getElem?_eq_none (by omega)
    unfold rdQ whGo
    exact ⟨[], by rw [lq_test h, e, thenS_ok, if_pos (show (none != some (39 : Nat)) = true from rfl), lq_none h e, List.append_nil]⟩
  | n + 1, M + 1, a, f, x6, S, hm, ha, hf => by
    unfold rdQ whGo
    cases e : t[a]? with
    | none =>
      exact ⟨[], by rw [lq_test h, e, thenS_ok, if_pos (show (none != some (39 : Nat)) = true from rfl), lq_none h e, List.append_nil]⟩
    | some c =>
      rw [lq_test h, e]
      simp only [thenS_ok]
      by_cases hc : c = 39
      · subst hc
        rw [if_pos rfl]
        exact ⟨a, f, x6, [], rfl, rfl, by rw [List.append_nil]; rfl⟩
      · have hne : (some c != some 39) = true := by simp [hc]
        simp only [hne, if_neg hc, if_true]
        by_cases h92 : c = 92
        · subst h92
          rw [if_pos rfl]
          cases hv : lookT t_SHORT ((t.drop (a + 1)).take 1) with
          | none =>
            simp only [lq_bad h e hv]
            exact ⟨[], by rw [List.append_nil]⟩
          | some v =>
            obtain ⟨x6', e1⟩ := lq_esc (k := k) (x3 := x3) (x5 := x5) (x6 := x6) (x7 := x7) (S := S) h e hf hv
            simp only [e1]
            have ih := lq_loop (k := k) (x3 := x3) (x5 := x5) (x7 := x7) h n M (a + 2) (f ++ v) x6' (S ++ [.dic kQ]) (by omega) (by omega) (by rw [List.length_append]; have := (short_len hv).1; omega)
            cases hr : rdQ t n (a + 2) (f ++ v) with
            | yes d b =>
              rw [hr] at ih
              obtain ⟨a', f', x, J, g1, g2, g3⟩ := ih
              exact ⟨a', f', x, [.dic kQ] ++ J, g1, g2, by rw [g3, List.append_assoc]⟩
            | no p =>
              rw [hr] at ih
              obtain ⟨J, g3⟩ := ih
              exact ⟨[.dic kQ] ++ J, by rw [g3, List.append_assoc]⟩
        · rw [if_neg h92]
          obtain ⟨x6', e1⟩ := lq_plain (k := k) (x3 := x3) (x5 := x5) (x6 := x6) (x7 := x7) (S := S) h e h92 hf
          simp only [e1]
          exact lq_loop h n M (a + 1) (f ++ [c]) _ S (by omega) (by omega) (by rw [List.length_append, List.length_singleton]; omega)
end K80

namespace K80
open PySem PySem.Spec PyProof.Rows L2 Fx
/-! ### _law_read: integers and words -/
theorem drop_tw {p : Nat → Bool} : ∀ l : List Nat, l.drop (l.takeWhile p).length = l.dropWhile p
  | [] => rfl
  | c :: l => by
    rw [List.takeWhile_cons, List.dropWhile_cons]
    cases hc : p c with
    | true =>
      rw [if_pos rfl, if_pos rfl, List.length_cons, List.drop_succ_cons]
      exact drop_tw l
    | false => rfl
theorem sk_sk {p : Nat → Bool} {t : List Nat} {a : Nat} : scan p t (scan p t a) = scan p t a := by
  by_cases h : scan p t a < t.length
  · have e : t[scan p t a]? = some t[scan p t a] := by simp [h]
    refine scan_stop e ?_
    have hl : a < t.length := by have : a ≤ scan p t a := scan_ge; omega
    have e2 : scan p t a = a + ((t.drop a).takeWhile p).length := rfl
    have e4 : t.drop (scan p t a) = (t.drop a).dropWhile p := by
      rw [e2, ← List.drop_drop]
      exact drop_tw _
    rw [List.drop_eq_getElem_cons h] at e4
    have hd : ((t.drop a).dropWhile p).head? = some t[scan p t a] := by rw [← e4]; rfl
    have := List.head?_dropWhile_not p (t.drop a)
    rw [hd] at this
    simpa using this
  · exact scan_end (by omega)
theorem rd_sk {t : List Nat} : (∀ n a f d b, rdQ t n a f = .yes d b → sk t b = b) ∧ (∀ a d b, rdI t a = .yes d b → sk t b = b) ∧ (∀ a d b, rdW t a = .yes d b → sk t b = b) ∧ (∀ rd n a l d b, rdT rd t n a l = .yes d b → sk t b = b) := by
  refine ⟨?_, ?_, ?_, ?_⟩
  · intro n
    induction n with
    | zero => intro a f d b h; cases h
    | succ n ih =>
      intro a f d b h
      unfold rdQ at h
      split at h
      · cases h
      · split at h
        · cases h; exact sk_sk
        · split at h
          · split at h
            · exact ih _ _ _ _ h
            · cases h
          · exact ih _ _ _ _ h
  · intro a d b h
    unfold rdI at h
    split at h
    · cases h
    · split at h
      · cases h
      · cases h; exact sk_sk
  · intro a d b h
    unfold rdW at h
    split at h
    · cases h; exact sk_sk
    · split at h
      · cases h; exact sk_sk
      · split at h
        · cases h; exact sk_sk
        · cases h
  · intro rd n
    induction n with
    | zero => intro a l d b h; cases h
    | succ n ih =>
      intro a l d b h
      unfold rdT at h
      split at h
      · cases h; exact sk_sk
      · split at h
        · cases h
        · exact ih _ _ _ _ h
theorem rdV_sk {t : List Nat} {n a : Nat} {d : D} {b : Nat} (h : rdV t n a = .yes d b) : sk t b = b := by
  rw [rdV_eq] at h
  split at h
  · cases n with
    | zero => cases h
    | succ n => exact rd_sk.2.2.2 _ _ _ _ _ _ h
  · unfold rdL at h
    split at h
    · exact rd_sk.1 _ _ _ _ _ h
    · split at h
      · exact rd_sk.2.1 _ _ _ h
      · exact rd_sk.2.2.1 _ _ _ h
abbrev nT : MT := (mAnd (mTst (mBin oNe (mSlice (mVar 0) (mPart (mVar 7)) (mPart (mBin oAdd (mVar 7) (mC (.int 1))))) (mC (.str (cs ""))))) (mTst (mBin oInA (mBin oIxA (mVar 0) (mVar 7)) (mC (.str (cs "0123456789"))))))
abbrev aT : MT := (mAnd (mTst (mBin oNe (mSlice (mVar 0) (mPart (mVar 7)) (mPart (mBin oAdd (mVar 7) (mC (.int 1))))) (mC (.str (cs ""))))) (mTst (mChain oLe oLe (mC (.str (cs "a"))) (mBin oIxA (mVar 0) (mVar 7)) (mC (.str (cs "z"))))))
abbrev n7 : MS := (mSet 7 (mBin oAdd (mVar 7) (mC (.int 1))))
theorem digs (c : Nat) : decide (c ∈ cs "0123456789") = digC c := by
  have e : cs "0123456789" = [48, 49, 50, 51, 52, 53, 54, 55, 56, 57] := by decide +kernel
  rw [e]
  unfold digC
  by_cases h : 48 ≤ c ∧ c ≤ 57
  · obtain ⟨h1, h2⟩ := h
    have : c = 48 ∨ c = 49 ∨ c = 50 ∨ c = 51 ∨ c = 52 ∨ c = 53 ∨ c = 54 ∨ c = 55 ∨ c = 56 ∨ c = 57 := by omega
    rcases this with rfl | rfl | rfl | rfl | rfl | rfl | rfl | rfl | rfl | rfl <;> rfl
  · have h1 : (decide (48 ≤ c) && decide (c ≤ 57)) = false := by
      rw [Bool.and_eq_false_iff]
      simp only [decide_eq_false_iff_not]
      omega
    rw [h1]
    simp only [decide_eq_false_iff_not, List.mem_cons, List.not_mem_nil, or_false]
    omega
theorem n_scan {t : List Nat} {S : List Cell} {a : Nat} {k : Int} {x3 x4 x5 x6 : Option D} (h : tOk t) (b : Nat) : whGo nT n7 whN (sl8 t a k x3 x4 x5 x6 (some (.int (b : Nat)))) S = .nx (sl8 t a k x3 x4 x5 x6 (some (.int (scan digC t b : Nat)))) S := by
  have hz : t.length ≤ sizeLine := line_le (by have := h.1; omega)
  exact wh_scan (p := digC) (t := t) (T := nT) (B := n7) (S := S) (sdf := fun b => sl8 t a k x3 x4 x5 x6 (some (.int (b : Nat))))
    (fun a c hc => by
      have c1 := cut_one hc
      have n1 : (([c] : List Nat) != []) = true := rfl
      have dg := digs c
      simp only [nT, sl8, mAnd_ev, mTst_ev, mBin_ev, mSlice_ev, mPart_ev, mVar_ev, mC_ev, bind_ok, List.getElem?_cons_succ, List.getElem?_cons_zero, intD_int, oAdd_int, oSl, hz, if_true, c1, cse, ne_str (okT_at h.2 hc) on, n1, blD_bl, optR_some, oIxA_str, atI_nat', hc, Option.map_some, oIn_sign, dg]) (fun a ha => by
      have c1 := cut_none ha
      have n1 : (([] : List Nat) != []) = false := rfl
      simp only [nT, sl8, mAnd_ev, mTst_ev, mBin_ev, mSlice_ev, mPart_ev, mVar_ev, mC_ev, bind_ok, List.getElem?_cons_succ, List.getElem?_cons_zero, intD_int, oAdd_int, oSl, hz, if_true, c1, cse, ne_str on on, n1, blD_bl, optR_some, Bool.false_eq_true, if_false]) (fun a _ => by simp [n7, sl8]) whN b (by have := h.1; unfold whN; omega)
theorem a_scan {t : List Nat} {S : List Cell} {a : Nat} {k : Int} {x3 x4 x5 x6 : Option D} (h : tOk t) (b : Nat) : whGo aT n7 whN (sl8 t a k x3 x4 x5 x6 (some (.int (b : Nat)))) S = .nx (sl8 t a k x3 x4 x5 x6 (some (.int (scan wrdC t b : Nat)))) S := by
  have hz : t.length ≤ sizeLine := line_le (by have := h.1; omega)
  exact wh_scan (p := wrdC) (t := t) (T := aT) (B := n7) (S := S) (sdf := fun b => sl8 t a k x3 x4 x5 x6 (some (.int (b : Nat))))
    (fun a c hc => by
      have c1 := cut_one hc
      have n1 : (([c] : List Nat) != []) = true := rfl
      by_cases h1 : 97 ≤ c
      · have d1 : decide (c < 97) = false := decide_eq_false (by omega)
        by_cases h2 : c ≤ 122
        · have d2 : decide (122 < c) = false := decide_eq_false (by omega)
          simp only [aT, sl8, mAnd_ev, mTst_ev, mBin_ev, mSlice_ev, mPart_ev, mVar_ev, mC_ev, bind_ok, List.getElem?_cons_succ, List.getElem?_cons_zero, intD_int, oAdd_int, oSl, hz, if_true, c1, cse, ne_str (okT_at h.2 hc) on, n1, blD_bl, optR_some, oIxA_str, atI_nat', hc, Option.map_some, mChain_ev, csa, csz, oLe_str, lt_one, d1, d2, Bool.not_false]
          simp [wrdC, h1, h2]
        · have d2 : decide (122 < c) = true := decide_eq_true (by omega)
          simp only [aT, sl8, mAnd_ev, mTst_ev, mBin_ev, mSlice_ev, mPart_ev, mVar_ev, mC_ev, bind_ok, List.getElem?_cons_succ, List.getElem?_cons_zero, intD_int, oAdd_int, oSl, hz, if_true, c1, cse, ne_str (okT_at h.2 hc) on, n1, blD_bl, optR_some, oIxA_str, atI_nat', hc, Option.map_some, mChain_ev, csa, csz, oLe_str, lt_one, d1, d2, Bool.not_false, Bool.not_true]
          simp [wrdC, h1, h2]
      · have d1 : decide (c < 97) = true := decide_eq_true (by omega)
        simp only [aT, sl8, mAnd_ev, mTst_ev, mBin_ev, mSlice_ev, mPart_ev, mVar_ev, mC_ev, bind_ok, List.getElem?_cons_succ, List.getElem?_cons_zero, intD_int, oAdd_int, oSl, hz, if_true, c1, cse, ne_str (okT_at h.2 hc) on, n1, blD_bl, optR_some, oIxA_str, atI_nat', hc, Option.map_some, mChain_ev, csa, csz, oLe_str, lt_one, d1, Bool.not_true, Bool.false_eq_true, if_false]
        simp [wrdC, h1]) (fun a ha => by
      have c1 := cut_none ha
      have n1 : (([] : List Nat) != []) = false := rfl
      simp only [aT, sl8, mAnd_ev, mTst_ev, mBin_ev, mSlice_ev, mPart_ev, mVar_ev, mC_ev, bind_ok, List.getElem?_cons_succ, List.getElem?_cons_zero, intD_int, oAdd_int, oSl, hz, if_true, c1, cse, ne_str on on, n1, blD_bl, optR_some, Bool.false_eq_true, if_false]) (fun a _ => by simp [n7, sl8]) whN b (by have := h.1; unfold whN; omega)
/-- the words -/
noncomputable abbrev lW : MS := (mSeq (mWhile whN aT n7)
  (mSeq (mIf (mTst (mBin oNotInA (mSlice (mVar 0) (mPart (mVar 1)) (mPart (mVar 7))) (mTup (mCons (mC (.str (cs "none"))) (mCons (mC (.str (cs "true"))) (mCons (mC (.str (cs "false"))) mNil))))))
  (mRet (mTup (mCons (mC (.str (cs "no"))) (mCons (mVar 1) mNil))))
  mNext)
  (mRet (mTup (mCons (mC (.str (cs "yes"))) (mCons (mBin oIxA dW (mSlice (mVar 0) (mPart (mVar 1)) (mPart (mVar 7)))) (mCons (mCall m__law_skip (mCons (mVar 0) (mCons (mVar 7) mNil))) mNil)))))))
theorem l_words {t : List Nat} {S : List Cell} {a : Nat} {k : Int} {x3 x4 x5 x6 : Option D} (h : tOk t) : ∃ J, lW (sl8 t a k x3 x4 x5 x6 (some (.int (a : Nat)))) S = .rt (lawR (rdW t a)) (S ++ J) := by
  have hz : t.length ≤ sizeLine := line_le (by have := h.1; omega)
  have wh := a_scan (S := S) (a := a) (k := k) (x3 := x3) (x4 := x4) (x5 := x5) (x6 := x6) h a
  have wh' : whGo aT n7 whN [some (.str t), some (.int (a : Nat)), some (.int k), x3, x4, x5, x6, some (.int (a : Nat))] S = .nx [some (.str t), some (.int (a : Nat)), some (.int k), x3, x4, x5, x6, some (.int (wEnd t a : Nat))] S := wh
  have hw : a ≤ wEnd t a := scan_ge
  have ec : cutG t (some (a : Int)) (some ((wEnd t a : Nat) : Int)) = wW t a := cut_ab hw
  have z3 : 3 ≤ sizeLine := line_le (by omega)
  have ms := fun S => m__law_skip_ok (a := wEnd t a) (S := S) h
  have kw : ∀ x d, getK kW (.inr (stS x)) = some d → (!([D.str (cs "none"), .str (cs "true"), .str (cs "false")].any fun y => eqF y (.str x))) = false → wW t a = x → rdW t a = .yes d (sk t (wEnd t a)) → ∃ J, lW (sl8 t a k x3 x4 x5 x6 (some (.int (a : Nat)))) S = .rt (lawR (rdW t a)) (S ++ J) := fun x d h1 h2 h3 h4 => by
    refine ⟨[.dic kW], ?_⟩
    rw [h4]
    simp only [lW, sl8, mSeq_ev, mWhile_ev, wh', mIf_ev, mTst_ev, mBin_ev, mSlice_ev, mPart_ev, mVar_ev, mC_ev, bind_ok, thenS_ok, List.getElem?_cons_succ, List.getElem?_cons_zero, intD_int, oSl, hz, if_true, ec, h3, mTup_ev, mCons_ev, mNil_ev, List.length_cons, List.length_nil, Nat.zero_add, z3, oNotIn_str _ [D.str (cs "none"), .str (cs "true"), .str (cs "false")] S rfl, h2, blD_bl, optR_some, Bool.false_eq_true, if_false, mNext_ev, mRet_ev, dW_ev, ixS, h1, mCall_ev, ms]
    rfl
  by_cases h1 : wW t a = cs "none"
  · exact kw [110, 111, 110, 101] .non rfl (by rw [csN, csT, csF]; rfl) (by rw [h1, csN]) (by unfold rdW; rw [if_pos h1])
  · by_cases h2 : wW t a = cs "true"
    · exact kw [116, 114, 117, 101] (.bl true) rfl (by rw [csN, csT, csF]; rfl) (by rw [h2, csT]) (by unfold rdW; rw [if_neg h1, if_pos h2])
    · by_cases h3 : wW t a = cs "false"
      · exact kw [102, 97, 108, 115, 101] (.bl false) rfl (by rw [csN, csT, csF]; rfl) (by rw [h3, csF]) (by unfold rdW; rw [if_neg h1, if_neg h2, if_pos h3])
      · have er : rdW t a = .no a := by unfold rdW; rw [if_neg h1, if_neg h2, if_neg h3]
        have na : (!([D.str (cs "none"), .str (cs "true"), .str (cs "false")].any fun y => eqF y (.str (wW t a)))) = true := by
          simp [eqF, Ne.symm h1, Ne.symm h2, Ne.symm h3]
        refine ⟨[], ?_⟩
        rw [er, List.append_nil]
        simp only [lW, sl8, mSeq_ev, mWhile_ev, wh', mIf_ev, mTst_ev, mBin_ev, mSlice_ev, mPart_ev, mVar_ev, mC_ev, bind_ok, thenS_ok, List.getElem?_cons_succ, List.getElem?_cons_zero, intD_int, oSl, hz, if_true, ec, mTup_ev, mCons_ev, mNil_ev, List.length_cons, List.length_nil, Nat.zero_add, z3, z2, oNotIn_str _ [D.str (cs "none"), .str (cs "true"), .str (cs "false")] S rfl, na, blD_bl, optR_some, mRet_ev]
        rfl
noncomputable abbrev lN : MS := (mSeq (mSet 7 (mBin oAdd (mVar 1) (mB oIntS (mCons (mBin oEq (mVar 3) (mC (.str (cs "-")))) mNil))))
  (mSeq (mWhile whN nT n7)
  (mSeq (mIf (mAnd (mTst (mBin oEq (mVar 3) (mC (.str (cs "-"))))) (mTst (mBin oEq (mVar 7) (mBin oAdd (mVar 1) (mC (.int 1))))))
  (mRet (mTup (mCons (mC (.str (cs "no"))) (mCons (mVar 7) mNil))))
  mNext)
  (mSeq (mIf (mTst (mBin oGt (mBin oSub (mBin oSub (mVar 7) (mVar 1)) (mB oIntS (mCons (mBin oEq (mVar 3) (mC (.str (cs "-")))) mNil))) (mC (.int 40))))
  (mRet (mTup (mCons (mC (.str (cs "no"))) (mCons (mVar 1) mNil))))
  mNext)
  (mSeq (mIf (mTst (mBin oGt (mVar 7) (mVar 1)))
  (mRet (mTup (mCons (mC (.str (cs "yes"))) (mCons (mB oIntS (mCons (mSlice (mVar 0) (mPart (mVar 1)) (mPart (mVar 7))) mNil)) (mCons (mCall m__law_skip (mCons (mVar 0) (mCons (mVar 7) mNil))) mNil)))))
  mNext)
  lW)))))
theorem l_num {t : List Nat} {S : List Cell} {a : Nat} {k : Int} {x4 x5 x6 x7 : Option D} (h : tOk t) (h39 : t[a]? ≠ some 39) : ∃ J, lN (sl8 t a k (some (.str ((t.drop a).take 1))) x4 x5 x6 x7) S = .rt (lawR (rdL t a)) (S ++ J) := by
  have hz : t.length ≤ sizeLine := line_le (by have := h.1; omega)
  have er : rdL t a = if numC t[a]? = true then rdI t a else rdW t a := by unfold rdL; rw [if_neg h39]
  have o1 : okT ((t.drop a).take 1) = true := okT_take h.2 _ _
  have e1 : (((t.drop a).take 1) == [45]) = decide (t[a]? = some 45) := by
    cases e : t[a]? with
    | none =>
      rw [List.drop_of_length_le (List.getElem?_eq_none_iff.mp e)]
      rfl
    | some c =>
      obtain ⟨hl, q⟩ := List.getElem?_eq_some_iff.mp e
      rw [List.drop_eq_getElem_cons hl, q]
      by_cases hc : c = 45
      · subst hc; simp
      · simp [hc]
  have st : (a : Int) + (if decide (t[a]? = some 45) = true then 1 else 0) = (iStart t a : Nat) := by
    unfold iStart
    by_cases hq : t[a]? = some 45
    · simp [hq]
    · simp [hq]
  have wh := n_scan (S := S) (a := a) (k := k) (x3 := some (.str ((t.drop a).take 1))) (x4 := x4) (x5 := x5) (x6 := x6) h (iStart t a)
  have wh' : whGo nT n7 whN [some (.str t), some (.int (a : Nat)), some (.int k), some (.str ((t.drop a).take 1)), x4, x5, x6, some (.int (iStart t a : Nat))] S = .nx [some (.str t), some (.int (a : Nat)), some (.int k), some (.str ((t.drop a).take 1)), x4, x5, x6, some (.int (iEnd t a : Nat))] S := wh
  have hge : iStart t a ≤ iEnd t a := scan_ge
  have ms := fun S => m__law_skip_ok (a := iEnd t a) (S := S) h
  have z3 : 3 ≤ sizeLine := line_le (by omega)
  rw [er]
  -- what is common
  have main : ∀ (b : Bool), decide (t[a]? = some 45) = b → lN (sl8 t a k (some (.str ((t.drop a).take 1))) x4 x5 x6 x7) S =
      (if (b = true ∧ iEnd t a = a + 1) then .rt (lawR (.no (iEnd t a))) S else if iStart t a + 40 < iEnd t a then .rt (lawR (.no a)) S
        else if a < iEnd t a then (match oIntS [.str ((t.drop a).take (iEnd t a - a))] S with | .ok d S1 => .rt (.tup [.str (cs "yes"), d, .int (sk t (iEnd t a) : Nat)]) S1 | .exc x S1 => .exc x [some (.str t), some (.int (a : Nat)), some (.int k), some (.str ((t.drop a).take 1)), x4, x5, x6, some (.int (iEnd t a : Nat))] S1 | .stk => .stk)
        else lW (sl8 t a k (some (.str ((t.drop a).take 1))) x4 x5 x6 (some (.int (iEnd t a : Nat)))) S) := fun b hb => by
    have lN1 : lN (sl8 t a k (some (.str ((t.drop a).take 1))) x4 x5 x6 x7) S = (mSeq (mIf (mAnd (mTst (mBin oEq (mVar 3) (mC (.str (cs "-"))))) (mTst (mBin oEq (mVar 7) (mBin oAdd (mVar 1) (mC (.int 1))))))
      (mRet (mTup (mCons (mC (.str (cs "no"))) (mCons (mVar 7) mNil))))
      mNext)
      (mSeq (mIf (mTst (mBin oGt (mBin oSub (mBin oSub (mVar 7) (mVar 1)) (mB oIntS (mCons (mBin oEq (mVar 3) (mC (.str (cs "-")))) mNil))) (mC (.int 40))))
      (mRet (mTup (mCons (mC (.str (cs "no"))) (mCons (mVar 1) mNil))))
      mNext)
      (mSeq (mIf (mTst (mBin oGt (mVar 7) (mVar 1)))
      (mRet (mTup (mCons (mC (.str (cs "yes"))) (mCons (mB oIntS (mCons (mSlice (mVar 0) (mPart (mVar 1)) (mPart (mVar 7))) mNil)) (mCons (mCall m__law_skip (mCons (mVar 0) (mCons (mVar 7) mNil))) mNil)))))
      mNext)
      lW))) [some (.str t), some (.int (a : Nat)), some (.int k), some (.str ((t.drop a).take 1)), x4, x5, x6, some (.int (iEnd t a : Nat))] S := by
      simp only [lN, sl8, mSeq_ev, mSet_ev, mBin_ev, mVar_ev, mB_ev, mCons_ev, mNil_ev, mC_ev, bind_ok, thenS_ok, List.getElem?_cons_succ, List.getElem?_cons_zero, List.set_cons_succ, List.set_cons_zero, csm, eq_str o1 o45, e1, oIntS_bl, oAdd_int, st, mWhile_ev, wh']
    rw [lN1]
    have c1 : cutG t (some (a : Int)) (some ((iEnd t a : Nat) : Int)) = (t.drop a).take (iEnd t a - a) := cut_ab (by have : a ≤ iStart t a := by { unfold iStart; omega }; omega)
    have st2 : (iStart t a : Int) = (a : Int) + (if b = true then 1 else 0) := by rw [← st, hb]
    by_cases q1 : b = true ∧ iEnd t a = a + 1
    · rw [if_pos q1]
      obtain ⟨q1, q2⟩ := q1
      have d1 : (((iEnd t a : Nat) : Int) == (a : Int) + 1) = true := by simp; omega
      simp only [mSeq_ev, mIf_ev, mAnd_ev, mTst_ev, mBin_ev, mVar_ev, mC_ev, bind_ok, thenS_ok, List.getElem?_cons_succ, List.getElem?_cons_zero, csm, eq_str o1 o45, e1, hb, q1, blD_bl, optR_some, if_true, oAdd_int, oEq_int, d1, mRet_ev, mTup_ev, mCons_ev, mNil_ev, List.length_cons, List.length_nil, Nat.zero_add, z2]
      rfl
    · rw [if_neg q1]
      have d1 : b = true → (((iEnd t a : Nat) : Int) == (a : Int) + 1) = false := fun hq => by
        have : ¬ iEnd t a = a + 1 := fun z => q1 ⟨hq, z⟩
        simp
        omega
      have step : ∀ (X : MS) (sd : Sl), sd = [some (.str t), some (.int (a : Nat)), some (.int k), some (.str ((t.drop a).take 1)), x4, x5, x6, some (.int (iEnd t a : Nat))] → mSeq (mIf (mAnd (mTst (mBin oEq (mVar 3) (mC (.str (cs "-"))))) (mTst (mBin oEq (mVar 7) (mBin oAdd (mVar 1) (mC (.int 1))))))
          (mRet (mTup (mCons (mC (.str (cs "no"))) (mCons (mVar 7) mNil)))) mNext) X sd S = X sd S := fun X sd hsd => by
        subst hsd
        cases b with
        | true => simp only [mSeq_ev, mIf_ev, mAnd_ev, mTst_ev, mBin_ev, mVar_ev, mC_ev, bind_ok, thenS_ok, List.getElem?_cons_succ, List.getElem?_cons_zero, csm, eq_str o1 o45, e1, hb, blD_bl, optR_some, if_true, oAdd_int, oEq_int, d1 rfl, Bool.false_eq_true, if_false, mNext_ev]
        | false => simp only [mSeq_ev, mIf_ev, mAnd_ev, mTst_ev, mBin_ev, mVar_ev, mC_ev, bind_ok, thenS_ok, List.getElem?_cons_succ, List.getElem?_cons_zero, csm, eq_str o1 o45, e1, hb, blD_bl, optR_some, Bool.false_eq_true, if_false, mNext_ev]
      rw [step _ _ rfl]
      by_cases q2 : iStart t a + 40 < iEnd t a
      · rw [if_pos q2]
        have d2 : decide ((40 : Int) < (iEnd t a : Int) - (a : Int) - (if b = true then 1 else 0)) = true := by
          rw [decide_eq_true_eq]; omega
        simp only [mSeq_ev, mIf_ev, mTst_ev, mBin_ev, mVar_ev, mC_ev, mB_ev, mCons_ev, mNil_ev, bind_ok, thenS_ok, List.getElem?_cons_succ, List.getElem?_cons_zero, csm, eq_str o1 o45, e1, hb, oIntS_bl, oSub, oInt_ev, oGt, d2, blD_bl, optR_some, if_true, mRet_ev, mTup_ev, List.length_cons, List.length_nil, Nat.zero_add, z2]
        rfl
      · rw [if_neg q2]
        have d2 : decide ((40 : Int) < (iEnd t a : Int) - (a : Int) - (if b = true then 1 else 0)) = false := by
          rw [decide_eq_false_iff_not]; omega
        by_cases q3 : a < iEnd t a
        · rw [if_pos q3]
          have d3 : decide ((a : Int) < (iEnd t a : Int)) = true := by rw [decide_eq_true_eq]; omega
          simp only [mSeq_ev, mIf_ev, mTst_ev, mBin_ev, mVar_ev, mC_ev, mB_ev, mCons_ev, mNil_ev, bind_ok, thenS_ok, List.getElem?_cons_succ, List.getElem?_cons_zero, csm, eq_str o1 o45, e1, hb, oIntS_bl, oSub, oInt_ev, oGt, d2, d3, blD_bl, optR_some, if_true, Bool.false_eq_true, if_false, mNext_ev, mRet_ev, mTup_ev, mSlice_ev, mPart_ev, intD_int, oSl, hz, c1]
          cases oIntS [.str ((t.drop a).take (iEnd t a - a))] S with
          | ok d S1 => simp only [bind_ok, mCall_ev, mCons_ev, mVar_ev, mNil_ev, List.getElem?_cons_succ, List.getElem?_cons_zero, ms, List.length_cons, List.length_nil, Nat.zero_add, z3, if_true, thenS_ok]
          | exc x S1 => rfl
          | stk => rfl
        · rw [if_neg q3]
          have d3 : decide ((a : Int) < (iEnd t a : Int)) = false := by rw [decide_eq_false_iff_not]; omega
          simp only [mSeq_ev, mIf_ev, mTst_ev, mBin_ev, mVar_ev, mC_ev, mB_ev, mCons_ev, mNil_ev, bind_ok, thenS_ok, List.getElem?_cons_succ, List.getElem?_cons_zero, csm, eq_str o1 o45, e1, hb, oIntS_bl, oSub, oInt_ev, oGt, d2, d3, blD_bl, optR_some, if_true, Bool.false_eq_true, if_false, mNext_ev]
  rw [main _ rfl]
  have int_ok : ¬ iEnd t a = iStart t a → ¬ iStart t a + 40 < iEnd t a → a < t.length → oIntS [.str ((t.drop a).take (iEnd t a - a))] S = .ok (.int ((PySem.intText? (stS ((t.drop a).take (iEnd t a - a)))).getD 0)) S := fun g1 g2 g3 => by
    obtain ⟨n, e⟩ := int_some g3 h.1 g1 g2
    have hl2 : ((t.drop a).take (iEnd t a - a)).length ≤ 640 := by
      have h4 : iStart t a ≤ a + 1 := by unfold iStart; split <;> omega
      rw [List.length_take]
      omega
    unfold oIntS
    simp only [e, if_pos hl2, Option.getD_some]
  by_cases h45 : t[a]? = some 45
  · have hl := (List.getElem?_eq_some_iff.mp h45).1
    have hs : iStart t a = a + 1 := by unfold iStart; rw [h45]; rfl
    have hn : numC t[a]? = true := by rw [h45]; rfl
    have d : decide (t[a]? = some 45) = true := by simp [h45]
    rw [if_pos hn]
    refine ⟨[], ?_⟩
    rw [List.append_nil, d]
    unfold rdI
    by_cases q1 : iEnd t a = a + 1
    · rw [if_pos ⟨rfl, q1⟩, if_pos (show iEnd t a = iStart t a by omega)]
    · rw [if_neg (fun z => q1 z.2), if_neg (show ¬ iEnd t a = iStart t a by omega)]
      by_cases q2 : iStart t a + 40 < iEnd t a
      · rw [if_pos q2, if_pos q2]
      · rw [if_neg q2, if_neg q2, if_pos (by omega), int_ok (by omega) q2 hl]
        rfl
  · have hs : iStart t a = a := by unfold iStart; rw [if_neg h45]; rfl
    have d : decide (t[a]? = some 45) = false := by simp [h45]
    rw [d, if_neg (fun z => Bool.false_ne_true z.1)]
    by_cases hn : numC t[a]? = true
    · rw [if_pos hn]
      obtain ⟨c, e, hc⟩ : ∃ c, t[a]? = some c ∧ digC c = true := by
        cases e : t[a]? with
        | none => rw [e] at hn; cases hn
        | some c =>
          rw [e] at hn h45
          refine ⟨c, rfl, ?_⟩
          unfold numC at hn
          rcases Bool.or_eq_true_iff.mp hn with q | q
          · exact absurd (by rw [eq_of_beq q]) h45
          · exact q
      have hl := (List.getElem?_eq_some_iff.mp e).1
      have hlt : a < iEnd t a := by
        unfold iEnd
        rw [hs, scan_go e hc]
        have : a + 1 ≤ scan digC t (a + 1) := scan_ge
        omega
      refine ⟨[], ?_⟩
      rw [List.append_nil]
      unfold rdI
      rw [if_neg (show ¬ iEnd t a = iStart t a by omega)]
      by_cases q2 : iStart t a + 40 < iEnd t a
      · rw [if_pos q2, if_pos q2]
      · rw [if_neg q2, if_neg q2, if_pos hlt, int_ok (by omega) q2 hl]
        rfl
    · rw [if_neg hn]
      have he : iEnd t a = a := by
        unfold iEnd
        rw [hs]
        cases e : t[a]? with
        | none => exact scan_end (List.getElem?_eq_none_iff.mp e)
        | some c =>
          rw [e] at hn
          refine scan_stop e ?_
          cases hd : digC c with
          | false => rfl
          | true => exact absurd (show (c == 45 || digC c) = true by rw [hd]; simp) hn
      rw [if_neg (by omega), if_neg (by omega), he]
      exact l_words h
end K80

namespace K80
open PySem PySem.Spec PyProof.Rows L2 Fx
/-! ### _law_read -/
noncomputable abbrev lrB (r__law_read : List D → List Cell → Res D) : MS := (mSeq (mSet 5 (mCall r__law_read (mCons (mVar 0) (mCons (mVar 1) (mCons (mBin oAdd (mVar 2) (mC (.int 1))) mNil)))))
      (mSeq (mIf (mTst (mBin oEq (mBin oIxA (mVar 5) (mC (.int 0))) (mC (.str (cs "no")))))
      (mRet (mVar 5))
      mNext)
      (mPar 4 1 (mCons (mBin oAdd (mVar 4) (mTup (mCons (mBin oIxA (mVar 5) (mC (.int 1))) mNil))) (mCons (mCall m__law_skip (mCons (mVar 0) (mCons (mBin oIxA (mVar 5) (mC (.int 2))) mNil))) mNil)))))
noncomputable abbrev lTup (r__law_read : List D → List Cell → Res D) : MS := (mSeq (mIf (mTst (mBin oEq (mVar 2) (mC (.int 20))))
    (mRet (mTup (mCons (mC (.str (cs "no"))) (mCons (mVar 1) mNil))))
    mNext)
    (mSeq (mPar 4 1 (mCons (mTup mNil) (mCons (mCall m__law_skip (mCons (mVar 0) (mCons (mBin oAdd (mVar 1) (mC (.int 1))) mNil))) mNil)))
    (mSeq (mWhile whN tT (lrB r__law_read))
    (mRet (mTup (mCons (mC (.str (cs "yes"))) (mCons (mVar 4) (mCons (mCall m__law_skip (mCons (mVar 0) (mCons (mBin oAdd (mVar 1) (mC (.int 1))) mNil))) mNil))))))))
noncomputable abbrev lQuo : MS := (mSeq (mPar 4 1 (mCons (mC (.str (cs ""))) (mCons (mBin oAdd (mVar 1) (mC (.int 1))) mNil)))
    (mSeq (mWhile whN lqT lqB)
    (mRet (mTup (mCons (mC (.str (cs "yes"))) (mCons (mVar 4) (mCons (mCall m__law_skip (mCons (mVar 0) (mCons (mBin oAdd (mVar 1) (mC (.int 1))) mNil))) mNil)))))))
noncomputable abbrev bLRead (r__law_read : List D → List Cell → Res D) : MS := (mSeq (mSet 3 (mSlice (mVar 0) (mPart (mVar 1)) (mPart (mBin oAdd (mVar 1) (mC (.int 1))))))
  (mSeq (mIf (mTst (mBin oEq (mVar 3) (mC (.str (cs "("))))) (lTup r__law_read) mNext)
  (mSeq (mIf (mTst (mBin oEq (mVar 3) (mC (.str (cs "'"))))) lQuo mNext)
  lN)))
theorem lr_yes {t : List Nat} {S : List Cell} {a b : Nat} {k : Int} {x3 x5 x6 x7 : Option D} {acc : List D} {d : D} {r : List D → List Cell → Res D} (h : tOk t) (hr : r [.str t, .int (a : Nat), .int (k + 1)] S = .ok (lawR (.yes d b)) S) (hs : sk t b = b) (hz : acc.length ≤ 100000) :
    lrB r (sl8 t a k x3 (some (.tup acc)) x5 x6 x7) S = .nx (sl8 t b k x3 (some (.tup (acc ++ [d]))) (some (lawR (.yes d b))) x6 x7) S := by
  have z1 : 1 ≤ sizeLine := line_le (by omega)
  have hz' : acc.length + 1 ≤ sizeLine := line_le (by omega)
  have ms := m__law_skip_ok (a := b) (S := S) h
  rw [hs] at ms
  simp [lrB, sl8, hr, lawR, eq_str oyes ono, yesno, z1, hz', ms]
theorem lr_no {t : List Nat} {S : List Cell} {a p : Nat} {k : Int} {x3 x4 x5 x6 x7 : Option D} {r : List D → List Cell → Res D} (hr : r [.str t, .int (a : Nat), .int (k + 1)] S = .ok (lawR (.no p)) S) :
    lrB r (sl8 t a k x3 x4 x5 x6 x7) S = .rt (lawR (.no p)) S := by
  simp [lrB, sl8, hr, lawR, eq_str ono ono, nono]
theorem lr_test {t : List Nat} {S : List Cell} {a : Nat} {k : Int} {x3 x4 x5 x6 x7 : Option D} (h : tOk t) : tT (sl8 t a k x3 x4 x5 x6 x7) S = .ok (t[a]? != some 41) S := ne_at (a := a) h csr (by rw [csr]; exact o41) rfl rfl
theorem lr_loop {t : List Nat} {S : List Cell} (h : tOk t) {k : Int} {x3 x6 x7 : Option D} {r : List D → List Cell → Res D} {rd : Nat → Rd} (hr : ∀ (a : Nat), r [.str t, .int (a : Nat), .int (k + 1)] S = .ok (lawR (rd a)) S) (hg : ∀ a d b, rd a = .yes d b → a < b ∧ sk t b = b) (he : ∀ a, t.length ≤ a → rd a = .no a) :
    ∀ (n M a : Nat) (acc : List D) (x5 : Option D), n < M → t.length + 1 ≤ a + n → acc.length ≤ a →
    match rdT rd t n a acc with
    | .yes d b => ∃ a' acc' x', d = .tup acc' ∧ b = sk t (a' + 1) ∧ whGo tT (lrB r) M (sl8 t a k x3 (some (.tup acc)) x5 x6 x7) S = .nx (sl8 t a' k x3 (some (.tup acc')) x' x6 x7) S
    | .no p => whGo tT (lrB r) M (sl8 t a k x3 (some (.tup acc)) x5 x6 x7) S = .rt (lawR (.no p)) S
  | 0, M + 1, a, acc, x, _, ha, hf => by
    have e : t[a]? = none := List.getElem?_eq_none (by omega)
    unfold rdT whGo
    rw [lr_test h, e, thenS_ok, if_pos (show (none != some (41 : Nat)) = true from rfl), lr_no (p := a) (by rw [hr, he a (by omega)])]
  | n + 1, M + 1, a, acc, x, hm, ha, hf => by
    unfold rdT whGo
    rw [lr_test h]
    simp only [thenS_ok]
    by_cases hc : t[a]? = some 41
    · rw [if_pos hc, hc]
      exact ⟨a, acc, x, rfl, rfl, rfl⟩
    · have hne : (t[a]? != some 41) = true := by simp [hc]
      rw [if_neg hc, hne, if_pos rfl]
      cases hv : rd a with
      | no p =>
        simp only
        rw [lr_no (p := p) (by rw [hr, hv])]
      | yes d b =>
        obtain ⟨hab, hsk⟩ := hg a d b hv
        have hlt : a < t.length := by
          rcases Nat.lt_or_ge a t.length with h1 | h1
          · exact h1
          · rw [he a h1] at hv; cases hv
        simp only
        rw [lr_yes (d := d) (b := b) h (by rw [hr, hv]) hsk (by have := h.1; omega)]
        exact lr_loop h hr hg he n M b (acc ++ [d]) _ (by omega) (by omega) (by rw [List.length_append, List.length_singleton]; omega)
theorem lawR_bel {r : Rd} (hg : ∀ d a, r = .yes d a → ∀ m, D.bel m d) (m : Nat) : D.bel m (lawR r) := by
  cases r with
  | no p => unfold lawR; simp
  | yes d b => unfold lawR; simp; exact hg d b rfl m
theorem one_at {t : List Nat} {a c : Nat} : ((t.drop a).take 1 == [c]) = decide (t[a]? = some c) := by
  cases e : t[a]? with
  | none =>
    rw [List.drop_of_length_le (List.getElem?_eq_none_iff.mp e)]
    rfl
  | some c' =>
    obtain ⟨hl, q⟩ := List.getElem?_eq_some_iff.mp e
    rw [List.drop_eq_getElem_cons hl, q]
    by_cases hc : c' = c
    · subst hc; simp
    · simp [hc]
theorem ref__law_read (n : Nat) (ds : List D) (S : List Cell) (hl : ds.length = 3) (b : MS) (hb : b = bLRead (m__law_read n)) : RefR S (m__law_read (n + 1) ds S) (b (startD 8 ds) S) := by
  subst hb
  generalize hq : m__law_read n = r
  unfold m__law_read
  split
  · rename_i t a k
    split
    · rename_i hc
      obtain ⟨a0, k0, k20, kn, tok⟩ := hc
      obtain ⟨a, rfl⟩ := Int.eq_ofNat_of_zero_le a0
      obtain ⟨k, rfl⟩ := Int.eq_ofNat_of_zero_le k0
      rw [Int.toNat_natCast, Int.toNat_natCast]
      rw [Int.toNat_natCast] at kn
      have hz : t.length ≤ sizeLine := line_le (by have := tok.1; omega)
      have hsl : startD 8 [D.str t, .int (a : Nat), .int (k : Nat)] = [some (.str t), some (.int (a : Nat)), some (.int (k : Nat)), none, none, none, none, none] := rfl
      rw [hsl]
      have o1 : okT ((t.drop a).take 1) = true := okT_take tok.2 _ _
      have c1 : cutG t (some (a : Int)) (some ((a : Int) + 1)) = (t.drop a).take 1 := by
        have := cut_nat t a 1
        exact this
      have bel : ∀ m, D.bel m (lawR (rdV t (20 - k) a)) := lawR_bel fun d p hr => (rdV_good tok.2 _ a d p hr).2.1
      have z3 : 3 ≤ sizeLine := line_le (by omega)
      have b1 : bLRead r [some (.str t), some (.int (a : Nat)), some (.int (k : Nat)), none, none, none, none, none] S = (mSeq (mIf (mTst (mBin oEq (mVar 3) (mC (.str (cs "("))))) (lTup r) mNext)
          (mSeq (mIf (mTst (mBin oEq (mVar 3) (mC (.str (cs "'"))))) lQuo mNext) lN)) (sl8 t a k (some (.str ((t.drop a).take 1))) none none none none) S := by
        simp only [bLRead, mSeq_ev, mSet_ev, mSlice_ev, mPart_ev, mBin_ev, mVar_ev, mC_ev, bind_ok, thenS_ok, List.getElem?_cons_succ, List.getElem?_cons_zero, List.set_cons_succ, List.set_cons_zero, intD_int, oAdd_int, oSl, hz, if_true, c1]
      rw [b1]
      by_cases h40 : t[a]? = some 40
      · have e1 : (((t.drop a).take 1) == [40]) = true := by rw [one_at]; simp [h40]
        have er : rdV t (20 - k) a = tupV t (20 - k) a := by rw [rdV_eq, if_pos h40]
        by_cases hk : k = 20
        · subst hk
          refine ref_pure0 (bel _) ?_
          rw [er]
          simp only [mSeq_ev, mIf_ev, mTst_ev, mBin_ev, mVar_ev, mC_ev, sl8, bind_ok, thenS_ok, List.getElem?_cons_succ, List.getElem?_cons_zero, csl, eq_str o1 o40, e1, blD_bl, optR_some, if_true, lTup, oEq_int, show (((20 : Nat) : Int) == 20) = true from rfl, mRet_ev, mTup_ev, mCons_ev, mNil_ev, List.length_cons, List.length_nil, Nat.zero_add, z2]
          rfl
        · have hk' : 20 - k = (19 - k) + 1 := by omega
          have hb : (((k : Nat) : Int) == 20) = false := by simp; omega
          have er2 : tupV t (20 - k) a = rdT (rdV t (19 - k)) t (t.length + 1) (sk t (a + 1)) [] := by rw [hk']; rfl
          rw [er, er2] at bel
          rw [er, er2]
          have hr : ∀ (a : Nat), r [.str t, .int (a : Nat), .int ((k : Int) + 1)] S = .ok (lawR (rdV t (19 - k) a)) S := fun a => by
            rw [← hq]
            unfold m__law_read
            simp only
            have e1 : ((k : Int) + 1).toNat = k + 1 := by omega
            rw [e1, if_pos ⟨by omega, by omega, by omega, by omega, tok⟩, Int.toNat_natCast, show 20 - (k + 1) = 19 - k by omega]
          have L := lr_loop (S := S) (x3 := some (.str ((t.drop a).take 1))) (x6 := none) (x7 := none) tok hr (fun a d b e => ⟨(rdV_good tok.2 _ a d b e).1, rdV_sk e⟩) (fun a ha => rdV_end _ a ha) (t.length + 1) whN (sk t (a + 1)) [] none (by have := tok.1; unfold whN; omega) (by omega) (by simp)
          have z0 : 0 ≤ sizeLine := Nat.zero_le _
          refine ref_pure0 (bel _) ?_
          cases hv : rdT (rdV t (19 - k)) t (t.length + 1) (sk t (a + 1)) [] with
          | yes d b =>
            rw [hv] at L
            obtain ⟨a', acc', x', rfl, rfl, e⟩ := L
            have e' : whGo tT (lrB r) whN [some (.str t), some (.int ((sk t (a + 1) : Nat) : Int)), some (.int (k : Nat)), some (.str ((t.drop a).take 1)), some (.tup []), none, none, none] S = .nx (sl8 t a' k (some (.str ((t.drop a).take 1))) (some (.tup acc')) x' none none) S := e
            simp only [mSeq_ev, mIf_ev, mTst_ev, mBin_ev, mVar_ev, mC_ev, sl8, bind_ok, thenS_ok, List.getElem?_cons_succ, List.getElem?_cons_zero, csl, eq_str o1 o40, e1, blD_bl, optR_some, if_true, lTup, oEq_int, hb, Bool.false_eq_true, if_false, mNext_ev, mPar_ev, mTup_ev, mCons_ev, mNil_ev, List.length_nil, z0, mCall_ev, oAdd_int, m__law_skip_ok1 tok, List.set_cons_succ, List.set_cons_zero, mWhile_ev, e', mRet_ev, List.length_cons, Nat.zero_add, z3]
            rfl
          | no p =>
            rw [hv] at L
            have e' : whGo tT (lrB r) whN [some (.str t), some (.int ((sk t (a + 1) : Nat) : Int)), some (.int (k : Nat)), some (.str ((t.drop a).take 1)), some (.tup []), none, none, none] S = .rt (lawR (.no p)) S := L
            simp only [mSeq_ev, mIf_ev, mTst_ev, mBin_ev, mVar_ev, mC_ev, sl8, bind_ok, thenS_ok, List.getElem?_cons_succ, List.getElem?_cons_zero, csl, eq_str o1 o40, e1, blD_bl, optR_some, if_true, lTup, oEq_int, hb, Bool.false_eq_true, if_false, mNext_ev, mPar_ev, mTup_ev, mCons_ev, mNil_ev, List.length_nil, z0, mCall_ev, oAdd_int, m__law_skip_ok1 tok, List.set_cons_succ, List.set_cons_zero, mWhile_ev, e']
      · have e1 : (((t.drop a).take 1) == [40]) = false := by rw [one_at]; simp [h40]
        have er : rdV t (20 - k) a = rdL t a := by rw [rdV_eq, if_neg h40]
        rw [er] at bel
        rw [er]
        by_cases h39 : t[a]? = some 39
        · have e2 : (((t.drop a).take 1) == [39]) = true := by rw [one_at]; simp [h39]
          have er2 : rdL t a = rdQ t (t.length + 1) (a + 1) [] := by unfold rdL; rw [if_pos h39]
          rw [er2] at bel
          rw [er2]
          have L := lq_loop (k := k) (x3 := some (.str ((t.drop a).take 1))) (x5 := none) (x7 := none) tok (t.length + 1) whN (a + 1) [] none S (by have := tok.1; unfold whN; omega) (by omega) (by simp)
          cases hv : rdQ t (t.length + 1) (a + 1) [] with
          | yes d b =>
            rw [hv] at L bel
            obtain ⟨a', f', x', J, rfl, rfl, e⟩ := L
            refine ref_pure (junk := J) (bel _) ?_
            have e' : whGo lqT lqB whN [some (.str t), some (.int ((a : Int) + 1)), some (.int (k : Nat)), some (.str ((t.drop a).take 1)), some (.str []), none, none, none] S = .nx (sl8 t a' k (some (.str ((t.drop a).take 1))) (some (.str f')) none x' none) (S ++ J) := e
            simp only [mSeq_ev, mIf_ev, mTst_ev, mBin_ev, mVar_ev, mC_ev, sl8, bind_ok, thenS_ok, List.getElem?_cons_succ, List.getElem?_cons_zero, csl, csq, eq_str o1 o40, eq_str o1 o39, e1, e2, blD_bl, optR_some, if_true, Bool.false_eq_true, if_false, mNext_ev, lQuo, mPar_ev, mCons_ev, mNil_ev, cse, oAdd_int, List.set_cons_succ, List.set_cons_zero, mWhile_ev, e', mRet_ev, mTup_ev, mCall_ev, m__law_skip_ok1 tok, List.length_cons, List.length_nil, Nat.zero_add, z3]
            rfl
          | no p =>
            rw [hv] at L bel
            obtain ⟨J, e⟩ := L
            refine ref_pure (junk := J) (bel _) ?_
            have e' : whGo lqT lqB whN [some (.str t), some (.int ((a : Int) + 1)), some (.int (k : Nat)), some (.str ((t.drop a).take 1)), some (.str []), none, none, none] S = .rt (lawR (.no p)) (S ++ J) := e
            simp only [mSeq_ev, mIf_ev, mTst_ev, mBin_ev, mVar_ev, mC_ev, sl8, bind_ok, thenS_ok, List.getElem?_cons_succ, List.getElem?_cons_zero, csl, csq, eq_str o1 o40, eq_str o1 o39, e1, e2, blD_bl, optR_some, if_true, Bool.false_eq_true, if_false, mNext_ev, lQuo, mPar_ev, mCons_ev, mNil_ev, cse, oAdd_int, List.set_cons_succ, List.set_cons_zero, mWhile_ev, e']
        · have e2 : (((t.drop a).take 1) == [39]) = false := by rw [one_at]; simp [h39]
          obtain ⟨J, e⟩ := l_num (S := S) (k := k) (x4 := none) (x5 := none) (x6 := none) (x7 := none) tok h39
          refine ref_pure (junk := J) (bel _) ?_
          rw [← e]
          simp only [mSeq_ev, mIf_ev, mTst_ev, mBin_ev, mVar_ev, mC_ev, sl8, bind_ok, thenS_ok, List.getElem?_cons_succ, List.getElem?_cons_zero, csl, csq, eq_str o1 o40, eq_str o1 o39, e1, e2, blD_bl, optR_some, Bool.false_eq_true, if_false, mNext_ev]
    · trivial
  · trivial
end K80

namespace K80
open PySem PySem.Spec PyProof.Rows L2 Fx
/-! ### values as texts -/
abbrev jL := TL.joinL
theorem joinS_eq (a : List Nat) (ys : List (List Nat)) : joinS a ys = jL a ys := by
  unfold joinS
  exact (congrArg (fun x : Str => x.cps.toList) (SX.join_S a ys)).trans rfl
theorem strsD_map (ys : List (List Nat)) : strsD (ys.map D.str) = some ys := by
  induction ys with
  | nil => rfl
  | cons y ys ih => simp [strsD, ih]
theorem jL_cons (g x y : List Nat) (r : List (List Nat)) : jL g (x :: y :: r) = x ++ (g ++ jL g (y :: r)) := rfl
theorem jL_nil (g : List Nat) : jL g [] = [] := rfl
theorem jL_one (g x : List Nat) : jL g [x] = x := rfl
theorem jL_flat : ∀ ys : List (List Nat), jL [] ys = ys.flatten
  | [] => rfl
  | [x] => by simp [jL_one]
  | x :: y :: r => by rw [jL_cons, jL_flat (y :: r)]; simp
theorem jL_len (g : List Nat) : ∀ ys : List (List Nat), (ys.map List.length).sum + ys.length * g.length ≤ (jL g ys).length + g.length
  | [] => by simp
  | [x] => by simp [jL_one]
  | x :: y :: r => by
    have ih := jL_len g (y :: r)
    rw [jL_cons, List.length_append, List.length_append, List.map_cons, List.sum_cons, List.length_cons, Nat.succ_mul]
    omega
theorem jL_mem {g : List Nat} : ∀ {ys : List (List Nat)} {x : List Nat}, x ∈ ys → x.length ≤ (jL g ys).length
  | [y], x, h => by rw [List.mem_singleton.mp h, jL_one]; omega
  | y :: z :: r, x, h => by
    rw [jL_cons, List.length_append, List.length_append]
    rcases List.mem_cons.mp h with h | h
    · rw [h]; omega
    · have := jL_mem (g := g) h
      omega
def escC (c : Nat) : List Nat := if c = 10 then [92, 110] else if c = 9 then [92, 116] else if c = 92 then [92, 92] else if c = 39 then [92, 39] else [c]
def quoteT (x : List Nat) : List Nat := [39] ++ x.flatMap escC ++ [39]
theorem escC_len (c : Nat) : (escC c).length ≤ 2 := by unfold escC; (repeat' split) <;> simp
theorem flat_len : ∀ x : List Nat, (x.flatMap escC).length ≤ 2 * x.length
  | [] => by simp
  | c :: x => by
    rw [List.flatMap_cons, List.length_append, List.length_cons]
    have := escC_len c
    have := flat_len x
    omega
def kE : List (Key × D) := mergeD [] [(.inr (stS [10]), .str [92, 110]), (.inr (stS [9]), .str [92, 116]), (.inr (stS [92]), .str [92, 92]), (.inr (stS [39]), .str [92, 39])]
abbrev dE : ME := (mDict [((mC (.str (cs "\n"))), (mC (.str (cs "\\n")))), ((mC (.str (cs "\t"))), (mC (.str (cs "\\t")))), ((mC (.str (cs "\\"))), (mC (.str (cs "\\\\")))), ((mC (.str (cs "'"))), (mC (.str (cs "\\'"))))])
theorem dE_ev (sd : Sl) (S : List Cell) : dE sd S = .ok (.loc S.length) (S ++ [.dic kE]) := by
  unfold dE
  rw [cs_bn, cs_bt, cs_bb, cs_bq, cs_n, cs_t, csb, csq]
  rfl
theorem kE_eq : kE = [(.inr (stS [10]), .str [92, 110]), (.inr (stS [9]), .str [92, 116]), (.inr (stS [92]), .str [92, 92]), (.inr (stS [39]), .str [92, 39])] := (rfl)
theorem key_eq (a b : Nat) : decide ((.inr (stS [a]) : Key) = .inr (stS [b])) = decide (a = b) := by
  by_cases h : a = b
  · subst h; simp
  · have : ¬ ((.inr (stS [a]) : Key) = .inr (stS [b])) := fun z => h (by
      injection z with z
      have := congrArg (fun x : Str => x.cps.toList) z
      simpa [stS] using this)
    simp [h, this]
theorem kE_get (c : Nat) : (getK kE (.inr (stS [c]))).getD (.str [c]) = .str (escC c) := by
  rw [kE_eq]
  unfold getK escC
  simp only [List.find?_cons, key_eq, List.find?_nil]
  by_cases h1 : c = 10
  · subst h1; rfl
  · have d1 : decide ((10 : Nat) = c) = false := by simp; omega
    rw [d1, if_neg h1]
    by_cases h2 : c = 9
    · subst h2; rfl
    · have d2 : decide ((9 : Nat) = c) = false := by simp; omega
      rw [d2, if_neg h2]
      by_cases h3 : c = 92
      · subst h3; rfl
      · have d3 : decide ((92 : Nat) = c) = false := by simp; omega
        rw [d3, if_neg h3]
        by_cases h4 : c = 39
        · subst h4; rfl
        · have d4 : decide ((39 : Nat) = c) = false := by simp; omega
          rw [d4, if_neg h4]
          rfl
theorem get_esc {sd : Sl} {i c : Nat} (S : List Cell) (h : sd[i]? = some (some (.str [c]))) : mGet2 dE (mVar i) (mVar i) sd S = .ok (.str (escC c)) (S ++ [.dic kE]) := by
  have e : dicD (S ++ [.dic kE]) (.loc S.length) = some (S.length, kE) := by
    unfold dicD
    simp
  have ev : mVar i sd (S ++ [.dic kE]) = .ok (.str [c]) (S ++ [.dic kE]) := by rw [mVar_ev, h]
  unfold mGet2
  rw [dE_ev, bind_ok]
  simp only [e, ev, bind_ok]
  show Res.ok ((getK kE (.inr (stS [c]))).getD (.str [c])) _ = _
  rw [kE_get]
abbrev qF : MS := (mAug 1 oAddS (mGet2 dE (mVar 2) (mVar 2)))
theorem q_for {it : ItD} (hg : it.g = none) {t : D} : ∀ (x f : List Nat) (x2 : Option D) (S : List Cell), f.length + 2 * x.length ≤ 100000 →
    ∃ x2' J, forGo it (gN 2) qF (x.map fun c => .str [c]) [some t, some (.str f), x2] S = .nx [some t, some (.str (f ++ x.flatMap escC)), x2'] (S ++ J)
  | [], f, x2, S, _ => ⟨x2, [], by
    have ok : it.okAt S := by unfold ItD.okAt; rw [hg]; trivial
    simp [forGo, ok]⟩
  | c :: x, f, x2, S, h => by
    have ok : it.okAt S := by unfold ItD.okAt; rw [hg]; trivial
    rw [List.length_cons] at h
    obtain ⟨x2', J, e⟩ := q_for hg (t := t) x (f ++ escC c) (some (.str [c])) (S ++ [.dic kE]) (by have := escC_len c; rw [List.length_append]; omega)
    refine ⟨x2', [.dic kE] ++ J, ?_⟩
    rw [List.map_cons]
    unfold forGo
    rw [if_pos ok]
    have hf : f.length + (escC c).length ≤ sizeLine := line_le (by have := escC_len c; omega)
    have ge := get_esc (sd := [some t, some (.str f), some (.str [c])]) (i := 2) (c := c) S rfl
    simp only [gN_ev, List.set_cons_succ, List.set_cons_zero, qF, mAug_ev, mVar_ev, List.getElem?_cons_succ, List.getElem?_cons_zero, thenS_ok, ge, oAddS_str, hf, if_true, e]
    rw [List.flatMap_cons]
    simp
def m_quoted : List D → List Cell → Res D := fun ds S => match ds with
  | [.str x] => if x.length ≤ 10000 then .ok (.str (quoteT x)) S else .stk
  | _ => .stk
abbrev m__law_quoted := m_quoted
noncomputable abbrev bQuoted : MS := (mSeq (mSet 1 (mC (.str (cs ""))))
  (mSeq (mFor (mSeqI (mVar 0)) (gN 2) qF)
  (mRet (mBin oAdd (mBin oAdd (mC (.str (cs "'"))) (mVar 1)) (mC (.str (cs "'")))))))
noncomputable abbrev bLQuoted : MS := (mRet (mBin oAdd (mBin oAdd (mC (.str (cs "'"))) (mJoin (mC (.str (cs ""))) (mFresh (mLc (mSeqI (mVar 0)) [1] (gN 1) mYes (mGet2 dE (mVar 1) (mVar 1)))))) (mC (.str (cs "'")))))
theorem ref_quoted (ds : List D) (S : List Cell) (h : ds.length = 1) (b : MS) (hb : b = bQuoted) : RefR S (m_quoted ds S) (b (startD 3 ds) S) := by
  subst hb
  unfold m_quoted
  split
  · rename_i x
    split
    · rename_i hx
      have hsl : startD 3 [D.str x] = [some (.str x), none, none] := rfl
      rw [hsl]
      obtain ⟨x2', J, e⟩ := q_for (it := ⟨x.map fun c => .str [c], none⟩) rfl (t := .str x) x [] none S (by simp; omega)
      refine ref_pure (junk := J) (by simp) ?_
      have fl := flat_len x
      have z1 : 1 + (x.flatMap escC).length ≤ sizeLine := line_le (by omega)
      have z2 : (39 :: x.flatMap escC).length + 1 ≤ sizeLine := line_le (by rw [List.length_cons]; omega)
      have z2' : 1 + (x.flatMap escC).length + 1 ≤ sizeLine := line_le (by omega)
      simp only [bQuoted, mSeq_ev, mSet_ev, mC_ev, cse, thenS_ok, List.set_cons_succ, List.set_cons_zero, mFor_ev, mSeqI_ev, mVar_ev, List.getElem?_cons_succ, List.getElem?_cons_zero, bind_ok, e, mRet_ev, mBin_ev, csq, oAdd_str, List.length_singleton, List.nil_append, List.cons_append, z1, if_true, List.length_cons, List.length_nil, Nat.zero_add, z2, List.length_append]
      unfold quoteT
      rw [if_pos (by omega)]
      simp
    · trivial
  · trivial
theorem lq_lc {it : ItD} (hg : it.g = none) {sd : Sl} (hsd : sd.length = 2) : ∀ (x : List Nat) (acc : List D) (S : List Cell), acc.length + x.length ≤ 100000 →
    ∃ J, lcGo it [1] (gN 1) mYes (mGet2 dE (mVar 1) (mVar 1)) sd (x.map fun c => .str [c]) acc S = .ok (acc ++ x.map fun c => .str (escC c)) (S ++ J)
  | [], acc, S, _ => ⟨[], by
    have ok : it.okAt S := by unfold ItD.okAt; rw [hg]; trivial
    simp [lcGo, ok]⟩
  | c :: x, acc, S, h => by
    have ok : it.okAt S := by unfold ItD.okAt; rw [hg]; trivial
    rw [List.length_cons] at h
    obtain ⟨J, e⟩ := lq_lc hg hsd x (acc ++ [.str (escC c)]) (S ++ [.dic kE]) (by rw [List.length_append, List.length_singleton]; omega)
    refine ⟨[.dic kE] ++ J, ?_⟩
    rw [List.map_cons]
    unfold lcGo
    rw [if_pos ok]
    have hf : acc.length < sizeLine := by have : acc.length + 1 ≤ sizeLine := line_le (by omega); omega
    have ge := get_esc (sd := (wipeD sd [1]).set 1 (some (.str [c]))) (i := 1) (c := c) S (by rw [List.getElem?_set_self (by simp [wipeD, hsd])])
    simp only [gN_ev, mYes_ev, if_true, ge, hf, e]
    simp
theorem flat_esc (x : List Nat) : (x.map escC).flatten = x.flatMap escC := by
  induction x with
  | nil => rfl
  | cons c x ih => simp [ih]
theorem app_last {S : List Cell} {c : Cell} : (S ++ [c])[S.length]? = some c := by simp
theorem ref__law_quoted (ds : List D) (S : List Cell) (h : ds.length = 1) (b : MS) (hb : b = bLQuoted) : RefR S (m_quoted ds S) (b (startD 2 ds) S) := by
  subst hb
  unfold m_quoted
  split
  · rename_i x
    split
    · rename_i hx
      have hsl : startD 2 [D.str x] = [some (.str x), none] := rfl
      rw [hsl]
      obtain ⟨J, e⟩ := lq_lc (it := ⟨x.map fun c => .str [c], none⟩) rfl (sd := [some (.str x), none]) rfl x [] S (by simp; omega)
      rw [List.nil_append] at e
      have fl := flat_len x
      have z1 : 1 + (x.flatMap escC).length ≤ sizeLine := line_le (by omega)
      have z2' : 1 + (x.flatMap escC).length + 1 ≤ sizeLine := line_le (by omega)
      have es : strsD (x.map fun c => D.str (escC c)) = some (x.map escC) := by
        have := strsD_map (x.map escC)
        rwa [List.map_map] at this
      have hs : ((x.map escC).map List.length).sum + (x.map escC).length * ([] : List Nat).length ≤ 16777216 := by
        have := jL_len [] (x.map escC)
        rw [jL_flat, flat_esc] at this
        simp only [List.length_nil, Nat.mul_zero, Nat.add_zero] at this ⊢
        omega
      refine ref_pure (junk := J ++ [.lst (x.map fun c => .str (escC c))]) (by simp) ?_
      simp only [bLQuoted, mRet_ev, mBin_ev, mC_ev, bind_ok, mJoin_ev, cse, mFresh_ev, mLc_ev, mSeqI_ev, mVar_ev, List.getElem?_cons_zero, e, seqD_loc, cellL_ev, app_last, Option.bind_some, es, hs, if_true, joinS_eq, jL_flat, flat_esc, csq, oAdd_str, List.length_singleton, z1]
      simp only [List.length_append, List.length_singleton, z2', if_true, bind_ok, thenS_ok, List.append_assoc, quoteT]
    · trivial
  · trivial
end K80

namespace K80
open PySem PySem.Spec PyProof.Rows L2 Fx
/-! ### show -/
def shwN (g : List Nat) : Nat → D → List Nat
  | 0, _ => []
  | n + 1, d => match d with
    | .tup l => [40] ++ g.tail ++ jL g (l.map (shwN g n)) ++ g.tail ++ [41]
    | .str x => quoteT x
    | .non => cs "none"
    | .bl b => if b = true then cs "true" else cs "false"
    | .int i => istr i
    | _ => []
/-- what can be told, to a depth -/
def okV : Nat → D → Prop
  | 0, _ => False
  | n + 1, d => match d with
    | .tup l => l.length ≤ 1000 ∧ ∀ x ∈ l, okV n x
    | .str x => okT x = true ∧ x.length ≤ 1000
    | .non => True
    | .bl _ => True
    | .int i => i.natAbs < 10 ^ 42
    | _ => False
theorem cLog_ok {i : Int} (h : i.natAbs < 10 ^ 42) : cLog i = true := by
  unfold cLog
  rw [decide_eq_true_eq]
  by_cases h0 : i.natAbs = 0
  · rw [h0]; decide
  · rw [Nat.log2_lt h0]
    exact Nat.lt_trans h (by decide +kernel)
open Classical in
noncomputable def m_show (n : Nat) : List D → List Cell → Res D := fun ds S => match ds with
  | [d] => if okV n d ∧ (shwN [32] n d).length ≤ 10000 then .ok (.str (shwN [32] n d)) S else .stk
  | _ => .stk
noncomputable abbrev bShow (r_show : List D → List Cell → Res D) : MS := (mSeq (mIf (mTru (mIsi "tuple" (mVar 0)))
  (mRet (mBin oAdd (mBin oAdd (mC (.str (cs "("))) (mJoin (mC (.str (cs " "))) (mFresh (mLc (mSeqI (mVar 0)) [1] (gN 1) mYes (mCall r_show (mCons (mVar 1) mNil)))))) (mC (.str (cs ")")))))
  mNext)
  (mSeq (mIf (mTru (mIsi "str" (mVar 0)))
  (mRet (mCall m_quoted (mCons (mVar 0) mNil)))
  mNext)
  (mSeq (mIf (mTst (mBin oIsN (mVar 0) (mC .non)))
  (mRet (mC (.str (cs "none"))))
  mNext)
  (mSeq (mIf (mTru (mIsi "bool" (mVar 0)))
  (mRet (mIfE (mTru (mVar 0)) (mC (.str (cs "true"))) (mC (.str (cs "false")))))
  mNext)
  (mRet (mB oStrC (mCons (mVar 0) mNil)))))))
theorem css : cs " " = [32] := by decide +kernel
theorem m_quoted_ok {x : List Nat} {S : List Cell} (h : x.length ≤ 10000) : m_quoted [.str x] S = .ok (.str (quoteT x)) S := by
  unfold m_quoted
  simp only
  rw [if_pos h]
theorem strs_shw (g : List Nat) (n : Nat) (l : List D) : strsD (l.map fun x => D.str (shwN g n x)) = some (l.map (shwN g n)) := by
  have := strsD_map (l.map (shwN g n))
  rwa [List.map_map] at this
theorem ref_show (n : Nat) (ds : List D) (S : List Cell) (hl : ds.length = 1) (b : MS) (hb : b = bShow (m_show n)) : RefR S (m_show (n + 1) ds S) (b (startD 2 ds) S) := by
  subst hb
  generalize hq : m_show n = r
  unfold m_show
  split
  · rename_i d
    split
    · rename_i hc
      obtain ⟨hv, hz⟩ := hc
      have hsl : startD 2 [d] = [some d, none] := rfl
      rw [hsl]
      cases d with
      | tup l =>
        obtain ⟨hn, hx⟩ : l.length ≤ 1000 ∧ ∀ x ∈ l, okV n x := hv
        have hz1 : (shwN [32] (n + 1) (.tup l)).length = 2 + (jL [32] (l.map (shwN [32] n))).length := by
          show ([40] ++ [] ++ jL [32] (l.map (shwN [32] n)) ++ [] ++ [41]).length = _
          simp; omega
        rw [hz1] at hz
        have lc := lcGo_map (it := ⟨l, none⟩) (ws := [1]) (g := gN 1) (t := mYes) (e := mCall r (mCons (mVar 1) mNil)) (sd := [some (.tup l), none]) (S := S) (fun x => .str (shwN [32] n x)) trivial l [] (fun x hm => ⟨_, rfl, rfl, by
          have h1 := jL_mem (g := [32]) (List.mem_map_of_mem (f := shwN [32] n) hm)
          have h2 : r [x] S = .ok (.str (shwN [32] n x)) S := by
            rw [← hq]
            unfold m_show
            simp only
            rw [if_pos ⟨hx x hm, by omega⟩]
          simp [wipeD, h2]⟩) (line_le (by simp; omega))
        rw [List.nil_append] at lc
        have hs : ((l.map (shwN [32] n)).map List.length).sum + (l.map (shwN [32] n)).length * 1 ≤ 16777216 := by
          have := jL_len [32] (l.map (shwN [32] n))
          rw [List.length_singleton] at this
          omega
        have z1 : 1 + (jL [32] (l.map (shwN [32] n))).length ≤ sizeLine := line_le (by omega)
        have z3 : ([40] ++ jL [32] (l.map (shwN [32] n))).length + 1 ≤ sizeLine := line_le (by simp; omega)
        refine ref_pure (junk := [.lst (l.map fun x => .str (shwN [32] n x))]) (by simp) ?_
        simp only [bShow, mSeq_ev, mIf_ev, mTru_ev, mIsi_ev, mVar_ev, List.getElem?_cons_zero, bind_ok, isi_tup_tuple, truD_bl, optR_some, thenS_ok, if_true, mRet_ev, mBin_ev, mC_ev, mJoin_ev, mFresh_ev, mLc_ev, mSeqI_ev, lc, seqD_loc, cellL_ev, app_last, Option.bind_some, strs_shw, css, hs, joinS_eq, csl, csr, oAdd_str, List.length_singleton, z1, z3]
        simp [shwN]
      | str x =>
        obtain ⟨h1, h2⟩ : okT x = true ∧ x.length ≤ 1000 := hv
        refine ref_pure0 (by simp) ?_
        simp [bShow, m_quoted_ok (S := S) (show x.length ≤ 10000 by omega), shwN]
      | non => exact ref_pure0 (by simp) (by simp [bShow, shwN])
      | bl b => exact ref_pure0 (by simp) (by cases b <;> simp [bShow, shwN])
      | int i =>
        have h1 : i.natAbs < 10 ^ 42 := hv
        refine ref_pure0 (by simp) ?_
        simp only [bShow, mSeq_ev, mIf_ev, mTru_ev, mIsi_ev, mVar_ev, List.getElem?_cons_zero, bind_ok, isi_int_tuple, isi_int_str, isi_int_bool, truD_bl, optR_some, thenS_ok, Bool.false_eq_true, if_false, mNext_ev, mTst_ev, mBin_ev, mC_ev, oIsN_non, isNonD_int, blD_bl, mRet_ev, mB_ev, mCons_ev, mNil_ev, oStrC_int, cLog_ok h1, if_true]
        rfl
      | cst _ => exact hv.elim
      | loc _ => exact hv.elim
      | adr _ => exact hv.elim
    · trivial
  · trivial
/-! ### _law_show -/
open Classical in
noncomputable def m__law_show (n : Nat) : List D → List Cell → Res D := fun ds S => match ds with
  | [d, .str g] => if okV n d ∧ (shwN g n d).length ≤ 10000 ∧ g.length ≤ 10 then .ok (.str (shwN g n d)) S else .stk
  | _ => .stk
noncomputable abbrev bLShow (r__law_show : List D → List Cell → Res D) : MS := (mSeq (mIf (mTru (mIsi "tuple" (mVar 0)))
  (mRet (mBin oAdd (mBin oAdd (mBin oAdd (mBin oAdd (mC (.str (cs "("))) (mSlice (mVar 1) (mPart (mC (.int 1))) mNoPart)) (mJoin (mVar 1) (mFresh (mLc (mSeqI (mVar 0)) [2] (gN 2) mYes (mCall r__law_show (mCons (mVar 2) (mCons (mVar 1) mNil))))))) (mSlice (mVar 1) (mPart (mC (.int 1))) mNoPart)) (mC (.str (cs ")")))))
  mNext)
  (mSeq (mIf (mTru (mIsi "str" (mVar 0)))
  (mRet (mCall m__law_quoted (mCons (mVar 0) mNil)))
  mNext)
  (mRet (mIfE (mTst (mBin oIsN (mVar 0) (mC .non))) (mC (.str (cs "none"))) (mIfE (mTru (mIsi "bool" (mVar 0))) (mBoolD (cs "true") (cs "false") (mVar 0)) (mB oStrC (mCons (mVar 0) mNil)))))))
theorem cut_tail (g : List Nat) : cutG g (some 1) none = g.tail := by
  cases g with
  | nil => rfl
  | cons c g =>
    have : cutG (c :: g) (some ((1 : Nat) : Int)) none = (c :: g).drop 1 := by
      unfold cutG
      rw [HT.sIx_nat]
      have h2 : HT.sIx (c :: g).length (c :: g).length none = (c :: g).length := rfl
      rw [h2, Nat.min_eq_left (by simp)]
      simp
    exact this
@[simp] theorem mBoolD_ev (x y : List Nat) (m : ME) (sd : Sl) (S : List Cell) : mBoolD x y m sd S = (m sd S).bind fun d S1 => match d with
  | .bl b => .ok (.str (if b = true then x else y)) S1
  | _ => .stk := (rfl)
theorem ref__law_show (n : Nat) (ds : List D) (S : List Cell) (hl : ds.length = 2) (b : MS) (hb : b = bLShow (m__law_show n)) : RefR S (m__law_show (n + 1) ds S) (b (startD 3 ds) S) := by
  subst hb
  generalize hq : m__law_show n = r
  unfold m__law_show
  split
  · rename_i d g
    split
    · rename_i hc
      obtain ⟨hv, hz, hg⟩ := hc
      have hsl : startD 3 [d, .str g] = [some d, some (.str g), none] := rfl
      rw [hsl]
      cases d with
      | tup l =>
        obtain ⟨hn, hx⟩ : l.length ≤ 1000 ∧ ∀ x ∈ l, okV n x := hv
        have hz1 : (shwN g (n + 1) (.tup l)).length = 2 + 2 * g.tail.length + (jL g (l.map (shwN g n))).length := by
          show ([40] ++ g.tail ++ jL g (l.map (shwN g n)) ++ g.tail ++ [41]).length = _
          simp only [List.length_append, List.length_singleton]; omega
        rw [hz1] at hz
        have lc := lcGo_map (it := ⟨l, none⟩) (ws := [2]) (g := gN 2) (t := mYes) (e := mCall r (mCons (mVar 2) (mCons (mVar 1) mNil))) (sd := [some (.tup l), some (.str g), none]) (S := S) (fun x => .str (shwN g n x)) trivial l [] (fun x hm => ⟨_, rfl, rfl, by
          have h1 := jL_mem (g := g) (List.mem_map_of_mem (f := shwN g n) hm)
          have h2 : r [x, .str g] S = .ok (.str (shwN g n x)) S := by
            rw [← hq]
            unfold m__law_show
            simp only
            rw [if_pos ⟨hx x hm, by omega, hg⟩]
          simp [wipeD, h2]⟩) (line_le (by simp; omega))
        rw [List.nil_append] at lc
        have hs : ((l.map (shwN g n)).map List.length).sum + (l.map (shwN g n)).length * g.length ≤ 16777216 := by
          have := jL_len g (l.map (shwN g n))
          omega
        have zg : g.length ≤ sizeLine := line_le (by omega)
        have z1 : 1 + g.tail.length ≤ sizeLine := line_le (by omega)
        have z2 : ([40] ++ g.tail).length + (jL g (l.map (shwN g n))).length ≤ sizeLine := line_le (by simp only [List.length_append, List.length_singleton]; omega)
        have z3 : ([40] ++ g.tail ++ jL g (l.map (shwN g n))).length + g.tail.length ≤ sizeLine := line_le (by simp only [List.length_append, List.length_singleton]; omega)
        have z4 : ([40] ++ g.tail ++ jL g (l.map (shwN g n)) ++ g.tail).length + 1 ≤ sizeLine := line_le (by simp only [List.length_append, List.length_singleton]; omega)
        refine ref_pure (junk := [.lst (l.map fun x => .str (shwN g n x))]) (by simp) ?_
        simp only [bLShow, mSeq_ev, mIf_ev, mTru_ev, mIsi_ev, mVar_ev, List.getElem?_cons_zero, List.getElem?_cons_succ, bind_ok, isi_tup_tuple, truD_bl, optR_some, thenS_ok, if_true, mRet_ev, mBin_ev, mC_ev, mSlice_ev, mPart_ev, mNoPart_ev, intD_int, oSl, zg, cut_tail, mJoin_ev, mFresh_ev, mLc_ev, mSeqI_ev, lc, seqD_loc, cellL_ev, app_last, Option.bind_some, strs_shw, hs, joinS_eq, csl, csr, oAdd_str, List.length_singleton, z1, z2, z3, z4]
        rfl
      | str x =>
        obtain ⟨h1, h2⟩ : okT x = true ∧ x.length ≤ 1000 := hv
        refine ref_pure0 (by simp) ?_
        simp [bLShow, m_quoted_ok (S := S) (show x.length ≤ 10000 by omega), shwN]
      | non => exact ref_pure0 (by simp) (by simp [bLShow, shwN])
      | bl b => exact ref_pure0 (by simp) (by cases b <;> simp [bLShow, shwN])
      | int i =>
        have h1 : i.natAbs < 10 ^ 42 := hv
        refine ref_pure0 (by simp) ?_
        simp only [bLShow, mSeq_ev, mIf_ev, mIfE_ev, mTru_ev, mIsi_ev, mVar_ev, List.getElem?_cons_zero, bind_ok, isi_int_tuple, isi_int_str, isi_int_bool, truD_bl, optR_some, thenS_ok, Bool.false_eq_true, if_false, mNext_ev, mTst_ev, mBin_ev, mC_ev, oIsN_non, isNonD_int, blD_bl, mRet_ev, mB_ev, mCons_ev, mNil_ev, oStrC_int, cLog_ok h1, if_true]
        rfl
      | cst _ => exact hv.elim
      | loc _ => exact hv.elim
      | adr _ => exact hv.elim
    · trivial
  · trivial
/-! ### is_shown_at -/
def isT : Nat → D → Bool
  | 0, d => match d with
    | .int i => decide (-10000000000000000000000000000000000000000 < i) && decide (i < 10000000000000000000000000000000000000000)
    | .non => true
    | .bl _ => true
    | .str _ => true
    | _ => false
  | n + 1, d => match d with
    | .tup l => l.all (isT n)
    | .int i => decide (-10000000000000000000000000000000000000000 < i) && decide (i < 10000000000000000000000000000000000000000)
    | .non => true
    | .bl _ => true
    | .str _ => true
    | _ => false
/-- its cells are lists and dicts -/
def vD (S : List Cell) : Nat → D → Prop
  | 0, d => match d with
    | .loc i => (∃ xs, S[i]? = some (.lst xs)) ∨ ∃ kvs, S[i]? = some (.dic kvs)
    | .cst _ => False
    | .adr _ => False
    | _ => True
  | n + 1, d => match d with
    | .tup l => l.length ≤ 1000 ∧ ∀ x ∈ l, vD S n x
    | .loc i => (∃ xs, S[i]? = some (.lst xs)) ∨ ∃ kvs, S[i]? = some (.dic kvs)
    | .cst _ => False
    | .adr _ => False
    | _ => True
open Classical in
noncomputable def m_is_shown_at (n : Nat) : List D → List Cell → Res D := fun ds S => match ds with
  | [d, .int k] => if 0 ≤ k ∧ k ≤ 20 ∧ 20 ≤ k.toNat + n ∧ vD S (20 - k.toNat) d then .ok (.bl (isT (20 - k.toNat) d)) S else .stk
  | _ => .stk
noncomputable abbrev bIsAt (r_is_shown_at : List D → List Cell → Res D) : MS := (mSeq (mIf (mTru (mIsi "tuple" (mVar 0)))
  (mRet (mAndV (mBin oLt (mVar 1) (mC (.int 20))) (mF oAllF (mLc (mSeqI (mVar 0)) [2] (gN 2) mYes (mCall r_is_shown_at (mCons (mVar 2) (mCons (mBin oAdd (mVar 1) (mC (.int 1))) mNil)))))))
  mNext)
  (mSeq (mIf (mTru (mIsi "int" (mVar 0)))
  (mRet (mChain oLtB oLtB (mNeg (mC (.int 10000000000000000000000000000000000000000))) (mVar 0) (mC (.int 10000000000000000000000000000000000000000))))
  mNext)
  (mRet (mOrV (mBin oIsN (mVar 0) (mC .non)) (mIsi "str" (mVar 0))))))
theorem isi_dic {S : List Cell} {n : Nat} {kvs : List (Key × D)} (h : S[n]? = some (.dic kvs)) {b : String} {r : Bool} (hb : kitB "dict" b = some r) : isiD S b (.loc n) = some r := by
  unfold isiD
  rw [tyD_loc, h]
  exact hb
theorem isi_cell {S : List Cell} {i : Nat} (h : (∃ xs, S[i]? = some (.lst xs)) ∨ ∃ kvs, S[i]? = some (.dic kvs)) : isiD S "tuple" (.loc i) = some false ∧ isiD S "int" (.loc i) = some false ∧ isiD S "str" (.loc i) = some false := by
  rcases h with ⟨xs, h⟩ | ⟨kvs, h⟩
  · have h' : cellL S i = some xs := by rw [cellL_ev, h]
    exact ⟨isi_loc_tuple h', isi_loc_int h', isi_loc_str h'⟩
  · exact ⟨isi_dic h (by decide +kernel), isi_dic h (by decide +kernel), isi_dic h (by decide +kernel)⟩
theorem ref_is_shown_at (n : Nat) (r : List D → List Cell → Res D) (hr : ∀ m, n = m + 1 → r = m_is_shown_at m) (ds : List D) (S : List Cell) (hl : ds.length = 2) (b : MS) (hb : b = bIsAt r) : RefR S (m_is_shown_at n ds S) (b (startD 3 ds) S) := by
  subst hb
  unfold m_is_shown_at
  split
  · rename_i d k
    split
    · rename_i hc
      obtain ⟨k0, k20, kn, hv⟩ := hc
      obtain ⟨k, rfl⟩ := Int.eq_ofNat_of_zero_le k0
      rw [Int.toNat_natCast] at kn hv ⊢
      have hsl : startD 3 [d, .int (k : Nat)] = [some d, some (.int (k : Nat)), none] := rfl
      rw [hsl]
      cases d with
      | tup l =>
        by_cases hk : k = 20
        · subst hk
          refine ref_pure0 (by simp) ?_
          simp [bIsAt, isT]
        · have e20 : 20 - k = (19 - k) + 1 := by omega
          rw [e20] at hv ⊢
          obtain ⟨hn, hx⟩ : l.length ≤ 1000 ∧ ∀ x ∈ l, vD S (19 - k) x := hv
          have hrm : r = m_is_shown_at (n - 1) := hr _ (by omega)
          have lc := lcGo_map (it := ⟨l, none⟩) (ws := [2]) (g := gN 2) (t := mYes) (e := mCall r (mCons (mVar 2) (mCons (mBin oAdd (mVar 1) (mC (.int 1))) mNil))) (sd := [some (.tup l), some (.int (k : Nat)), none]) (S := S) (fun x => .bl (isT (19 - k) x)) trivial l [] (fun x hm => ⟨_, rfl, rfl, by
            have h2 : r [x, .int ((k : Int) + 1)] S = .ok (.bl (isT (19 - k) x)) S := by
              rw [hrm]
              unfold m_is_shown_at
              simp only
              have e1 : ((k : Int) + 1).toNat = k + 1 := by omega
              have e2 : 20 - (k + 1) = 19 - k := by omega
              rw [e1, e2, if_pos ⟨by omega, by omega, by omega, hx x hm⟩]
            simp [wipeD, h2]⟩) (line_le (by simp; omega))
          rw [List.nil_append] at lc
          have hd : decide ((k : Int) < 20) = true := by simp; omega
          have hall : oAllF (l.map fun x => D.bl (isT (19 - k) x)) S = .ok (.bl (l.all (isT (19 - k)))) S := by
            have e := blsD_map (l.map (isT (19 - k)))
            rw [List.map_map] at e
            have e : blsD (l.map fun x => D.bl (isT (19 - k) x)) = some (l.map (isT (19 - k))) := e
            unfold oAllF
            rw [e]
            simp [List.all_map, Function.comp_def]
          refine ref_pure0 (by simp) ?_
          simp only [bIsAt, mSeq_ev, mIf_ev, mTru_ev, mIsi_ev, mVar_ev, List.getElem?_cons_zero, List.getElem?_cons_succ, bind_ok, isi_tup_tuple, truD_bl, optR_some, thenS_ok, if_true, mRet_ev, mAndV_ev, mBin_ev, mC_ev, oLt_int, hd, mF_ev, mLc_ev, mSeqI_ev, lc, hall]
          rfl
      | str x => exact ref_pure0 (by simp) (by cases hk : 20 - k <;> simp [bIsAt, isT])
      | non => exact ref_pure0 (by simp) (by cases hk : 20 - k <;> simp [bIsAt, isT])
      | bl b => exact ref_pure0 (by simp) (by cases hk : 20 - k <;> cases b <;> simp [bIsAt, isT, Fx.bi])
      | int i =>
        refine ref_pure0 (by simp) ?_
        by_cases h1 : (-10000000000000000000000000000000000000000 : Int) < i
        · cases hk : 20 - k <;> simp [bIsAt, isT, h1]
        · cases hk : 20 - k <;> simp [bIsAt, isT, h1]
      | cst _ => cases hk : 20 - k <;> (rw [hk] at hv; exact hv.elim)
      | loc i =>
        have hv' : (∃ xs, S[i]? = some (.lst xs)) ∨ ∃ kvs, S[i]? = some (.dic kvs) := by cases hk : 20 - k <;> (rw [hk] at hv; exact hv)
        obtain ⟨i1, i2, i3⟩ := isi_cell hv'
        refine ref_pure0 (by simp) ?_
        cases hk : 20 - k <;> simp [bIsAt, isT, i1, i2, i3]
      | adr _ => cases hk : 20 - k <;> (rw [hk] at hv; exact hv.elim)
    · trivial
  · trivial
open Classical in
noncomputable def m_is_shown : List D → List Cell → Res D := fun ds S => match ds with
  | [d] => if vD S 20 d then .ok (.bl (isT 20 d)) S else .stk
  | _ => .stk
noncomputable abbrev bIs : MS := (mRet (mCall (m_is_shown_at 20) (mCons (mVar 0) (mCons (mC (.int 0)) mNil))))
theorem ref_is_shown (ds : List D) (S : List Cell) (hl : ds.length = 1) (b : MS) (hb : b = bIs) : RefR S (m_is_shown ds S) (b (startD 1 ds) S) := by
  subst hb
  unfold m_is_shown
  split
  · rename_i d
    split
    · rename_i hv
      have hsl : startD 1 [d] = [some d] := rfl
      rw [hsl]
      have h2 : m_is_shown_at 20 [d, .int 0] S = .ok (.bl (isT 20 d)) S := by
        unfold m_is_shown_at
        simp only
        rw [if_pos ⟨by omega, by omega, by simp, hv⟩]
        rfl
      refine ref_pure0 (by simp) ?_
      simp [bIs, h2]
    · trivial
  · trivial
end K80

namespace K80
open PySem PySem.Spec PyProof.Rows L2 Fx
/-! ### _law_draw -/
def t1 : List Nat := [105, 116, 39, 115, 32, 92, 32, 126, 10]
def t2 : List Nat := [97, 9, 98]
theorem cs_1 : cs "it's \\ ~\n" = t1 := by decide +kernel
theorem cs_2 : cs "a\tb" = t2 := by decide +kernel
def leafs (v : Int) : List D := [.int (v - 1000), .str [], .str t1, .str t2, .non, .bl true, .bl false, .int 0]
def leafD (ns : List Int) (st : Tp) : D × Tp := ((leafs (nx ns st 2000).1).getD (nx ns (nx ns st 2000).2 8).1.toNat .non, (nx ns (nx ns st 2000).2 8).2)
def drawV (ns : List Int) : Nat → Tp → D × Tp
  | 0, st => leafD ns st
  | n + 1, st => if (nx ns st 3).1 = 0 then
      (.tup (drawL (drawV ns n) (nx ns (nx ns st 3).2 4).1.toNat (nx ns (nx ns st 3).2 4).2).1, (drawL (drawV ns n) (nx ns (nx ns st 3).2 4).1.toNat (nx ns (nx ns st 3).2 4).2).2)
    else leafD ns (nx ns st 3).2
/-- what is drawn -/
def isDrawn : Nat → D → Prop
  | 0, d => ∃ v : Int, 0 ≤ v ∧ v < 2000 ∧ d ∈ leafs v
  | n + 1, d => (∃ v : Int, 0 ≤ v ∧ v < 2000 ∧ d ∈ leafs v) ∨ ∃ l : List D, d = .tup l ∧ l.length ≤ 3 ∧ ∀ x ∈ l, isDrawn n x
theorem leafD_ok {ns : List Int} {st : Tp} (h : okst st) : (∃ v : Int, 0 ≤ v ∧ v < 2000 ∧ (leafD ns st).1 ∈ leafs v) ∧ okst (leafD ns st).2 := by
  obtain ⟨a1, a2, a3⟩ := nx_ok (ns := ns) (many := 2000) (by decide) h
  obtain ⟨b1, b2, b3⟩ := nx_ok (ns := ns) (many := 8) (by decide) a3
  refine ⟨⟨_, a1, a2, ?_⟩, b3⟩
  unfold leafD
  simp only
  have hl : (nx ns (nx ns st 2000).2 8).1.toNat < (leafs (nx ns st 2000).1).length := by
    show _ < 8
    omega
  rw [List.getD_eq_getElem?_getD, List.getElem?_eq_getElem hl, Option.getD_some]
  exact List.getElem_mem hl
theorem drawV_ok {ns : List Int} : ∀ (n : Nat) (st : Tp), okst st → isDrawn n (drawV ns n st).1 ∧ okst (drawV ns n st).2
  | 0, st, h => leafD_ok h
  | n + 1, st, h => by
    obtain ⟨a1, a2, a3⟩ := nx_ok (ns := ns) (many := 3) (by decide) h
    unfold drawV
    split
    · obtain ⟨b1, b2, b3⟩ := nx_ok (ns := ns) (many := 4) (by decide) a3
      obtain ⟨l1, l2, l3⟩ := drawL_ok (drawV_ok (ns := ns) n) (nx ns (nx ns st 3).2 4).1.toNat _ b3
      exact ⟨.inr ⟨_, rfl, by omega, l2⟩, l3⟩
    · obtain ⟨b1, b2⟩ := leafD_ok (ns := ns) a3
      exact ⟨.inl b1, b2⟩
theorem drawn_bel {m : Nat} : ∀ {n : Nat} {d : D}, isDrawn n d → D.bel m d
  | 0, d, ⟨v, _, _, h⟩ => by
    simp only [leafs, List.mem_cons, List.not_mem_nil, or_false] at h
    rcases h with rfl | rfl | rfl | rfl | rfl | rfl | rfl | rfl <;> simp
  | n + 1, d, .inl ⟨v, _, _, h⟩ => by
    simp only [leafs, List.mem_cons, List.not_mem_nil, or_false] at h
    rcases h with rfl | rfl | rfl | rfl | rfl | rfl | rfl | rfl <;> simp
  | n + 1, d, .inr ⟨l, e, _, h⟩ => by
    subst e
    rw [bel_tup]
    exact belL_of fun x hx => drawn_bel (h x hx)
noncomputable def m__law_draw (n : Nat) : List D → List Cell → Res D := fun ds S => match ds with
  | [.loc 1, .int k] => match tapeOf S with
    | some (ns, st, rest) => if 0 ≤ k ∧ k ≤ 10 ∧ k.toNat < n then .ok (drawV ns k.toNat st).1 (tpc ns (drawV ns k.toNat st).2 rest) else .stk
    | none => .stk
  | _ => .stk
noncomputable abbrev dLeaf : ME := (mBin oIxA (mTup (mCons (mBin oSub (mCall m_next (mCons (mVar 0) (mCons (mC (.int 2000)) mNil))) (mC (.int 1000))) (mCons (mC (.str (cs ""))) (mCons (mC (.str (cs "it's \\ ~\n"))) (mCons (mC (.str (cs "a\tb"))) (mCons (mC .non) (mCons (mC (.bl true)) (mCons (mC (.bl false)) (mCons (mC (.int 0)) mNil))))))))) (mCall m_next (mCons (mVar 0) (mCons (mC (.int 8)) mNil))))
noncomputable abbrev bDraw (r__law_draw : List D → List Cell → Res D) : MS := (mSeq (mIf (mAnd (mTst (mBin oGt (mVar 1) (mC (.int 0)))) (mTst (mBin oEq (mCall m_next (mCons (mVar 0) (mCons (mC (.int 3)) mNil))) (mC (.int 0)))))
  (mRet (mF oTupF (mLc (mRng1 (mCons (mCall m_next (mCons (mVar 0) (mCons (mC (.int 4)) mNil))) mNil)) [2] (gN 2) mYes (mCall r__law_draw (mCons (mVar 0) (mCons (mBin oSub (mVar 1) (mC (.int 1))) mNil))))))
  mNext)
  (mRet dLeaf))
theorem leaf_ev {ns : List Int} {st : Tp} {rest : List Cell} {k : Int} (h : okst st) : dLeaf [some (.loc 1), some (.int k), none] (tpc ns st rest) = .ok (leafD ns st).1 (tpc ns (leafD ns st).2 rest) := by
  obtain ⟨a1, a2, a3⟩ := nx_ok (ns := ns) (many := 2000) (by decide) h
  obtain ⟨b1, b2, b3⟩ := nx_ok (ns := ns) (many := 8) (by decide) a3
  have n1 := m_nx (ns := ns) (many := 2000) h (by decide) (by decide) rest
  have n2 := m_nx (ns := ns) (many := 8) a3 (by decide) (by decide) rest
  have z8 : 8 ≤ sizeLine := line_le (by omega)
  obtain ⟨j, hj⟩ := Int.eq_ofNat_of_zero_le b1
  have hl : j < (leafs (nx ns st 2000).1).length := by
    show _ < 8
    omega
  have hg : (leafs (nx ns st 2000).1)[j]? = some (leafD ns st).1 := by
    unfold leafD
    simp only
    rw [hj, Int.toNat_natCast, List.getD_eq_getElem?_getD, List.getElem?_eq_getElem hl, Option.getD_some]
  rw [hj] at n2
  simp only [dLeaf, mBin_ev, mTup_ev, mCons_ev, mCall_ev, mVar_ev, mC_ev, mNil_ev, bind_ok, List.getElem?_cons_zero, List.getElem?_cons_succ, n1, oSub, oInt_ev, if_true, List.length_cons, List.length_nil, Nat.zero_add, z8, n2, cse, cs_1, cs_2, oIxA_tup, atI_nat']
  show optR ((leafs (nx ns st 2000).1)[j]?) _ = _
  rw [hg]
  rfl
theorem ref__law_draw (n : Nat) (ds : List D) (S : List Cell) (hl : ds.length = 2) (b : MS) (hb : b = bDraw (m__law_draw n)) : RefR S (m__law_draw (n + 1) ds S) (b (startD 3 ds) S) := by
  subst hb
  generalize hq : m__law_draw n = r
  unfold m__law_draw
  split
  · rename_i k
    split
    · rename_i ns st rest ht
      split
      · rename_i hc
        obtain ⟨k0, k10, kn⟩ := hc
        obtain ⟨k, rfl⟩ := Int.eq_ofNat_of_zero_le k0
        rw [Int.toNat_natCast] at kn ⊢
        obtain ⟨rfl, hs⟩ := tapeOf_some ht
        have hsl : startD 3 [D.loc 1, .int (k : Nat)] = [some (.loc 1), some (.int (k : Nat)), none] := rfl
        rw [hsl]
        obtain ⟨d1, d2⟩ := drawV_ok (ns := ns) k st hs
        refine ref_tape (junk := []) (drawn_bel d1) ?_
        rw [List.append_nil]
        cases k with
        | zero =>
          have := leaf_ev (ns := ns) (rest := rest) (k := ((0 : Nat) : Int)) hs
          simp only [bDraw, mSeq_ev, mIf_ev, mAnd_ev, mTst_ev, mBin_ev, mVar_ev, mC_ev, bind_ok, List.getElem?_cons_zero, List.getElem?_cons_succ, oGt, oInt_ev, if_true, show decide ((0 : Int) < ((0 : Nat) : Int)) = false from rfl, blD_bl, optR_some, thenS_ok, Bool.false_eq_true, if_false, mNext_ev, mRet_ev]
          have e2 := this
          simp only [dLeaf, mBin_ev] at e2
          rw [e2]
          rfl
        | succ k =>
          have hd : decide ((0 : Int) < ((k + 1 : Nat) : Int)) = true := decide_eq_true (by omega)
          obtain ⟨a1, a2, a3⟩ := nx_ok (ns := ns) (many := 3) (by decide) hs
          have n1 := m_nx (ns := ns) (many := 3) hs (by decide) (by decide) rest
          unfold drawV
          by_cases h0 : (nx ns st 3).1 = 0
          · rw [if_pos h0]
            have hb0 : ((nx ns st 3).1 == 0) = true := by rw [h0]; rfl
            obtain ⟨b1, b2, b3⟩ := nx_ok (ns := ns) (many := 4) (by decide) a3
            have n2 := m_nx (ns := ns) (many := 4) a3 (by decide) (by decide) rest
            obtain ⟨m, hm⟩ := Int.eq_ofNat_of_zero_le b1
            rw [hm] at n2 ⊢
            have m4 : m < 4 := by omega
            have c : c62 (m : Int) = true := by unfold c62; rw [Bool.and_eq_true]; simp only [decide_eq_true_eq]; omega
            have lc := lc_draw (it := ⟨rngD 0 m, none⟩) rfl (ws := [2]) (g := gN 2) (e := mCall r (mCons (mVar 0) (mCons (mBin oSub (mVar 1) (mC (.int 1))) mNil))) (sd := [some (.loc 1), some (.int ((k + 1 : Nat) : Int)), none]) (ns := ns) (rest := rest) (f := drawV ns k) (fun x st' hs' => ⟨_, rfl, by
              have e1 : (((k + 1 : Nat) : Int) - 1) = (k : Nat) := by omega
              have h2 : r [.loc 1, .int (k : Nat)] (tpc ns st' rest) = .ok (drawV ns k st').1 (tpc ns (drawV ns k st').2 rest) := by
                rw [← hq]
                unfold m__law_draw
                simp only [tapeOf_tpc hs']
                rw [Int.toNat_natCast, if_pos ⟨by omega, by omega, by omega⟩]
              simp only [wipeD, List.set_cons_succ, List.set_cons_zero, mCall_ev, mCons_ev, mVar_ev, mBin_ev, mC_ev, mNil_ev, bind_ok, List.getElem?_cons_zero, List.getElem?_cons_succ, oSub, oInt_ev, if_true, e1, h2]⟩)
              (fun st' hs' => (drawV_ok (ns := ns) k st' hs').2) (rngD 0 m) [] _ b3 (by rw [rngD_length]; simp; omega)
            rw [List.nil_append, rngD_length] at lc
            simp only [bDraw, mSeq_ev, mIf_ev, mAnd_ev, mTst_ev, mBin_ev, mVar_ev, mC_ev, mCall_ev, mCons_ev, mNil_ev, bind_ok, List.getElem?_cons_zero, List.getElem?_cons_succ, oGt, oInt_ev, if_true, hd, blD_bl, optR_some, n1, oEq_int, hb0, thenS_ok, mRet_ev, mF_ev, mLc_ev, mRng1_ev, n2, c, Int.toNat_natCast, lc]
            rfl
          · rw [if_neg h0]
            have hb0 : ((nx ns st 3).1 == 0) = false := by simp [h0]
            have := leaf_ev (ns := ns) (rest := rest) (k := ((k + 1 : Nat) : Int)) a3
            simp only [dLeaf, mBin_ev] at this
            simp only [bDraw, mSeq_ev, mIf_ev, mAnd_ev, mTst_ev, mBin_ev, mVar_ev, mC_ev, mCall_ev, mCons_ev, mNil_ev, bind_ok, List.getElem?_cons_zero, List.getElem?_cons_succ, oGt, oInt_ev, if_true, hd, blD_bl, optR_some, n1, oEq_int, hb0, thenS_ok, Bool.false_eq_true, if_false, mNext_ev, mRet_ev]
            simp only [mCall_ev, mCons_ev, mVar_ev, mC_ev, mNil_ev, bind_ok, List.getElem?_cons_zero, List.getElem?_cons_succ] at this
            rw [this]
            rfl
      · trivial
    · trivial
  · trivial
end K80

namespace K80
open PySem PySem.Spec PyProof.Rows L2 Fx
/-! ### what is told is read back -/
structure Suf (t s : List Nat) (a : Nat) : Prop where
  le : a ≤ t.length
  eq : t.drop a = s
theorem Suf.next {t x s : List Nat} {a : Nat} (h : Suf t (x ++ s) a) : Suf t s (a + x.length) := by
  have hl := congrArg List.length h.eq
  rw [List.length_drop, List.length_append] at hl
  have := h.le
  refine ⟨by omega, ?_⟩
  rw [← List.drop_drop, h.eq, List.drop_left]
theorem Suf.cons {t s : List Nat} {a c : Nat} (h : Suf t (c :: s) a) : Suf t s (a + 1) := Suf.next (x := [c]) h
theorem Suf.head {t s : List Nat} {a c : Nat} (h : Suf t (c :: s) a) : t[a]? = some c := by
  have e : (t.drop a)[0]? = some c := by rw [h.eq]; rfl
  rw [List.getElem?_drop] at e
  exact e
theorem Suf.end {t : List Nat} {a : Nat} (h : Suf t [] a) : a = t.length := by
  have := List.drop_eq_nil_iff.mp h.eq
  have := h.le
  omega
theorem takeWhile_app {p : Nat → Bool} : ∀ {x s : List Nat}, (∀ c ∈ x, p c = true) → (∀ c r, s = c :: r → p c = false) → (x ++ s).takeWhile p = x
  | [], s, _, h => by
    cases s with
    | nil => rfl
    | cons c r => rw [List.nil_append, List.takeWhile_cons, h c r rfl]; rfl
  | c :: x, s, hx, h => by
    rw [List.cons_append, List.takeWhile_cons, hx c (by simp), if_pos rfl, takeWhile_app (fun d hd => hx d (by simp [hd])) h]
theorem Suf.scan {p : Nat → Bool} {t x s : List Nat} {a : Nat} (h : Suf t (x ++ s) a) (hx : ∀ c ∈ x, p c = true) (hs : ∀ c r, s = c :: r → p c = false) : Fx.scan p t a = a + x.length := by
  unfold Fx.scan
  rw [h.eq, takeWhile_app hx hs]
theorem Suf.skip {t x s : List Nat} {a : Nat} (h : Suf t (x ++ s) a) (hx : ∀ c ∈ x, blankC c = true) (hs : ∀ c r, s = c :: r → blankC c = false) : Suf t s (sk t a) := by
  have : sk t a = a + x.length := h.scan hx hs
  rw [this]
  exact h.next
theorem Suf.skip0 {t s : List Nat} {a : Nat} (h : Suf t s a) (hs : ∀ c r, s = c :: r → blankC c = false) : Suf t s (sk t a) := Suf.skip (x := []) h (fun c hc => by cases hc) hs
def stopR (s : List Nat) : Prop := ∀ c r, s = c :: r → blankC c = true ∨ c = 41
theorem blank_iff {c : Nat} : blankC c = true ↔ c = 32 ∨ c = 10 := by
  have e : cs " \n" = [32, 10] := by decide +kernel
  unfold blankC
  rw [e]
  simp
theorem blank_not {c : Nat} (h : c ≠ 32) (h2 : c ≠ 10) : blankC c = false := by
  cases e : blankC c with
  | false => rfl
  | true => rcases blank_iff.mp e with e | e <;> omega
theorem stop_dig {s : List Nat} (h : stopR s) : ∀ c r, s = c :: r → digC c = false := fun c r e => by
  have : c = 32 ∨ c = 10 ∨ c = 41 := by
    rcases h c r e with h | h
    · rcases blank_iff.mp h with h | h <;> omega
    · omega
  rcases this with rfl | rfl | rfl <;> rfl
theorem stop_wrd {s : List Nat} (h : stopR s) : ∀ c r, s = c :: r → wrdC c = false := fun c r e => by
  have : c = 32 ∨ c = 10 ∨ c = 41 := by
    rcases h c r e with h | h
    · rcases blank_iff.mp h with h | h <;> omega
    · omega
  rcases this with rfl | rfl | rfl <;> rfl
/-! #### quoted texts -/
theorem rd_quote {t s : List Nat} : ∀ (x : List Nat) (n a : Nat) (f : List Nat), Suf t (x.flatMap escC ++ (39 :: s)) a → x.length < n → ∃ e, rdQ t n a f = .yes (.str (f ++ x)) (sk t e) ∧ Suf t s e
  | [], n + 1, a, f, h, _ => by
    have e := Suf.head (t := t) (s := s) (a := a) (c := 39) h
    refine ⟨a + 1, ?_, Suf.cons h⟩
    unfold rdQ
    rw [e]
    simp
  | c :: x, n + 1, a, f, h, hn => by
    rw [List.length_cons] at hn
    rw [List.flatMap_cons, List.append_assoc] at h
    have step : ∀ k : Nat, escC c = [92, k] → lookT t_SHORT [k] = some [c] → ∃ e, rdQ t (n + 1) a f = .yes (.str (f ++ c :: x)) (sk t e) ∧ Suf t s e := fun k ek hv => by
      rw [ek] at h
      have h1 := Suf.head (t := t) (a := a) (c := 92) h
      have h2 := Suf.cons h
      have h3 : (t.drop (a + 1)).take 1 = [k] := by rw [h2.eq]; rfl
      have h4 := Suf.next (x := [92, k]) h
      obtain ⟨e, e1, e2⟩ := rd_quote x n (a + 2) (f ++ [c]) h4 (by omega)
      refine ⟨e, ?_, e2⟩
      unfold rdQ
      rw [h1]
      simp only
      rw [if_neg (by decide), if_pos trivial, h3, hv]
      simp only
      rw [e1, List.append_assoc]
      rfl
    by_cases c1 : c = 10
    · subst c1; exact step 110 rfl (by decide +kernel)
    · by_cases c2 : c = 9
      · subst c2; exact step 116 rfl (by decide +kernel)
      · by_cases c3 : c = 92
        · subst c3; exact step 92 rfl (by decide +kernel)
        · by_cases c4 : c = 39
          · subst c4; exact step 39 rfl (by decide +kernel)
          · have ek : escC c = [c] := by unfold escC; rw [if_neg c1, if_neg c2, if_neg c3, if_neg c4]
            rw [ek] at h
            have h1 := Suf.head (t := t) (a := a) (c := c) h
            have h4 := Suf.next (x := [c]) h
            obtain ⟨e, e1, e2⟩ := rd_quote x n (a + 1) (f ++ [c]) h4 (by omega)
            refine ⟨e, ?_, e2⟩
            unfold rdQ
            rw [h1]
            simp only
            rw [if_neg c4, if_neg c3, e1, List.append_assoc]
            rfl
/-! #### integers -/
theorem istr_nat (n : Nat) : istr (n : Int) = TL.numL n := TL.tl_num n
theorem istr_neg (m : Nat) : istr (-((m + 1 : Nat) : Int)) = 45 :: TL.numL (m + 1) := by
  have e : toString (-((m + 1 : Nat) : Int)) = "-" ++ toString (((m + 1 : Nat)) : Int) := rfl
  have h := TL.tl_num (m + 1)
  unfold istr
  rw [e]
  have h2 : (Str.ofString ("-" ++ toString (((m + 1 : Nat)) : Int))).cps.toList = 45 :: (Str.ofString (toString (((m + 1 : Nat)) : Int))).cps.toList := by
    rw [Str.ofString_eq_toList, Str.ofString_eq_toList]
    simp
  rw [h2]
  exact congrArg (45 :: ·) h
theorem numL_gt : ∀ (k n : Nat), 10 ^ k ≤ n → k < (TL.numL n).length
  | 0, n, h => by
    have := TL.numL_ne n
    cases e : TL.numL n with
    | nil => exact absurd e this
    | cons c r => simp
  | k + 1, n, h => by
    have h10 : 10 ^ (k + 1) = 10 ^ k * 10 := Nat.pow_succ 10 k
    have hp : 0 < 10 ^ k := Nat.pow_pos (by decide)
    have h2 := numL_gt k (n / 10) (by omega)
    rw [TL.numL_step (by omega), List.length_append, List.length_singleton]
    omega
theorem numL_dig (n : Nat) : ∀ c ∈ TL.numL n, digC c = true := fun c hc => by
  have := TL.numL_digits n c hc
  unfold digC
  simp
  omega
/-- a sign and digits -/
theorem rd_int {t s : List Nat} {a : Nat} {i : Int} (h : Suf t (istr i ++ s) a) (hs : stopR s) :
    (i.natAbs < 10 ^ 40 → ∃ e, rdL t a = .yes (.int i) (sk t e) ∧ Suf t s e) ∧ (¬ i.natAbs < 10 ^ 40 → rdL t a = .no a) := by
  obtain ⟨n, hn⟩ : ∃ n : Nat, i = (n : Int) ∨ (0 < n ∧ i = -(n : Int)) := ⟨i.natAbs, by omega⟩
  -- what both have
  have main : ∀ (p : List Nat) (n : Nat), istr i = p ++ TL.numL n → i.natAbs = n → iStart t a = a + p.length → numC t[a]? = true → t[a]? ≠ some 39 → PySem.intText? (stS (istr i)) = some i ∨ ¬ i.natAbs < 10 ^ 40 →
      (i.natAbs < 10 ^ 40 → ∃ e, rdL t a = .yes (.int i) (sk t e) ∧ Suf t s e) ∧ (¬ i.natAbs < 10 ^ 40 → rdL t a = .no a) := fun p n ei en hst hnum h39 hv => by
    have hsu : Suf t (TL.numL n ++ s) (a + p.length) := by
      rw [ei, List.append_assoc] at h
      exact h.next
    have hend : iEnd t a = a + p.length + (TL.numL n).length := by
      unfold iEnd
      rw [hst]
      exact hsu.scan (numL_dig n) (stop_dig hs)
    have hne : 0 < (TL.numL n).length := by
      cases e : TL.numL n with
      | nil => exact absurd e (TL.numL_ne n)
      | cons c r => simp
    have er : rdL t a = rdI t a := by unfold rdL; rw [if_neg h39, if_pos hnum]
    rw [er]
    unfold rdI
    rw [if_neg (show ¬ iEnd t a = iStart t a by omega)]
    have tx : (t.drop a).take (iEnd t a - a) = istr i := by
      rw [h.eq, ei, List.append_assoc, ← List.append_assoc p, show iEnd t a - a = (p ++ TL.numL n).length by rw [List.length_append]; omega, List.take_left]
    refine ⟨fun hb => ?_, fun hb => ?_⟩
    · have hl := TL.numL_len (n := n) (k := 40) (by decide) (by omega)
      rw [if_neg (by omega), tx]
      rcases hv with hv | hv
      · rw [hv]
        refine ⟨iEnd t a, rfl, ?_⟩
        rw [hend]
        exact hsu.next
      · exact absurd hb hv
    · have hl := numL_gt 40 n (by omega)
      rw [if_pos (by omega)]
  rcases hn with rfl | ⟨hp, rfl⟩
  · have hd : ∃ c r, TL.numL n ++ s = c :: r ∧ digC c = true := by
      cases e : TL.numL n with
      | nil => exact absurd e (TL.numL_ne n)
      | cons c r => exact ⟨c, r ++ s, rfl, numL_dig n c (by rw [e]; simp)⟩
    obtain ⟨c, r, e1, e2⟩ := hd
    have h' := h
    rw [istr_nat, e1] at h'
    have hc := h'.head
    have hcd : 48 ≤ c ∧ c ≤ 57 := by unfold digC at e2; simpa using e2
    refine main [] n (istr_nat n) (by omega) ?_ (by rw [hc]; show (c == 45 || digC c) = true; rw [e2]; simp) (by rw [hc]; intro z; injection z with z; omega) ?_
    · unfold iStart
      rw [hc, if_neg (by intro z; injection z with z; omega)]
      rfl
    · by_cases hb : ((n : Int)).natAbs < 10 ^ 40
      · left
        rw [istr_nat]
        have hl := TL.numL_len (n := n) (k := 40) (by decide) (by omega)
        have := PySem.intText_digits (x := stS (TL.numL n)) (by simpa [stS] using TL.numL_digits n) (by simpa [stS] using TL.numL_ne n) (by rw [stS_len]; omega)
        rw [this]
        have e3 : (stS (TL.numL n)).cps.toList = TL.numL n := by simp [stS]
        rw [e3, TL.numL_val]
      · exact .inr hb
  · obtain ⟨m, rfl⟩ : ∃ m, n = m + 1 := ⟨n - 1, by omega⟩
    have h' := h
    rw [istr_neg, List.cons_append] at h'
    have hc := h'.head
    refine main [45] (m + 1) (by rw [istr_neg]; rfl) (by omega) ?_ (by rw [hc]; rfl) (by rw [hc]; decide) ?_
    · unfold iStart
      rw [hc, if_pos rfl]
      rfl
    · by_cases hb : (-((m + 1 : Nat) : Int)).natAbs < 10 ^ 40
      · left
        rw [istr_neg]
        have hl := TL.numL_len (n := m + 1) (k := 40) (by decide) (by omega)
        have := PySem.intText_neg (x := stS (45 :: TL.numL (m + 1))) (cs := TL.numL (m + 1)) (by simp [stS]) (TL.numL_digits _) (TL.numL_ne _) (by rw [stS_len, List.length_cons]; omega)
        rw [this, TL.numL_val]
      · exact .inr hb
/-! #### words -/
theorem rd_word {t s x : List Nat} {a : Nat} {d : D} (h : Suf t (x ++ s) a) (hs : stopR s) (hx : ∀ c ∈ x, wrdC c = true) (hr : ∀ _ : Nat, (x = cs "none" ∧ d = .non) ∨ (x = cs "true" ∧ d = .bl true) ∨ (x = cs "false" ∧ d = .bl false)) :
    ∃ e, rdL t a = .yes d (sk t e) ∧ Suf t s e := by
  have hne : x ≠ [] := by
    rcases hr 0 with ⟨rfl, _⟩ | ⟨rfl, _⟩ | ⟨rfl, _⟩ <;> decide +kernel
  obtain ⟨c, r, rfl⟩ : ∃ c r, x = c :: r := by cases x with | nil => exact absurd rfl hne | cons c r => exact ⟨c, r, rfl⟩
  have hc := Suf.head (t := t) (a := a) (c := c) h
  have hw : 97 ≤ c ∧ c ≤ 122 := by
    have := hx c (by simp)
    unfold wrdC at this
    simpa using this
  have e1 : wEnd t a = a + (c :: r).length := h.scan hx (stop_wrd hs)
  have tx : wW t a = c :: r := by
    unfold wW
    rw [e1, h.eq, Nat.add_sub_cancel_left, List.take_left]
  have hnum : ¬ numC (some c) = true := by
    unfold numC digC
    simp
    omega
  have er : rdL t a = rdW t a := by unfold rdL; rw [hc, if_neg (by intro z; injection z with z; omega), if_neg hnum]
  rw [er]
  refine ⟨wEnd t a, ?_, by rw [e1]; exact h.next⟩
  unfold rdW
  rw [tx]
  rcases hr 0 with ⟨hx, rfl⟩ | ⟨hx, rfl⟩ | ⟨hx, rfl⟩
  · rw [if_pos hx]
  · rw [if_neg (by rw [hx]; decide +kernel), if_pos hx]
  · rw [if_neg (by rw [hx]; decide +kernel), if_neg (by rw [hx]; decide +kernel), if_pos hx]
/-! #### all -/
def okR : Nat → D → Prop
  | 0, _ => False
  | n + 1, d => match d with
    | .tup l => l.length ≤ 1000 ∧ ∀ x ∈ l, okR n x
    | .str x => okT x = true ∧ x.length ≤ 1000
    | .non => True
    | .bl _ => True
    | .int i => i.natAbs < 10 ^ 40
    | _ => False
structure okG (g : List Nat) : Prop where
  ne : g ≠ []
  bl : ∀ c ∈ g, blankC c = true
theorem okG.tail {g : List Nat} (h : okG g) : ∀ c ∈ g.tail, blankC c = true := fun c hc => h.bl c (List.mem_of_mem_tail hc)
theorem okR_okV : ∀ {n : Nat} {d : D}, okR n d → okV n d
  | n + 1, .tup l, h => ⟨h.1, fun x hx => okR_okV (h.2 x hx)⟩
  | n + 1, .str x, h => h
  | n + 1, .non, _ => trivial
  | n + 1, .bl _, _ => trivial
  | n + 1, .int i, h => by
    have h1 : i.natAbs < 10 ^ 40 := h
    exact Nat.lt_trans h1 (by decide +kernel)
/-- how a text of a value begins -/
theorem shw_head {g : List Nat} : ∀ {n : Nat} {d : D}, okV n d → ∃ c r, shwN g n d = c :: r ∧ blankC c = false ∧ c ≠ 41
  | n + 1, .tup l, h => ⟨40, _, rfl, by decide +kernel, by decide⟩
  | n + 1, .str x, h => ⟨39, _, rfl, by decide +kernel, by decide⟩
  | n + 1, .non, h => ⟨110, [111, 110, 101], csN, by decide +kernel, by decide⟩
  | n + 1, .bl true, h => ⟨116, [114, 117, 101], csT, by decide +kernel, by decide⟩
  | n + 1, .bl false, h => ⟨102, [97, 108, 115, 101], csF, by decide +kernel, by decide⟩
  | n + 1, .int i, h => by
    obtain ⟨k, hk⟩ : ∃ k : Nat, i = (k : Int) ∨ (0 < k ∧ i = -(k : Int)) := ⟨i.natAbs, by omega⟩
    rcases hk with rfl | ⟨hp, rfl⟩
    · cases e : TL.numL k with
      | nil => exact absurd e (TL.numL_ne k)
      | cons c r =>
        have := TL.numL_digits k c (by rw [e]; simp)
        exact ⟨c, r, (istr_nat k).trans e, blank_not (by omega) (by omega), by omega⟩
    · obtain ⟨m, rfl⟩ : ∃ m, k = m + 1 := ⟨k - 1, by omega⟩
      exact ⟨45, _, istr_neg m, by decide +kernel, by decide⟩
theorem rd_tup {g t s : List Nat} (hg : okG g) {n : Nat} {rd : Nat → Rd} (hrd : ∀ x b s, okR n x → Suf t (shwN g n x ++ s) b → stopR s → ∃ e, rd b = .yes x (sk t e) ∧ Suf t s e) :
    ∀ (l acc : List D) (m b : Nat), (∀ x ∈ l, okR n x) → l.length < m → Suf t (jL g (l.map (shwN g n)) ++ ((if l = [] then [] else g.tail) ++ (41 :: s))) b →
    ∃ e, rdT rd t m b acc = .yes (.tup (acc ++ l)) (sk t e) ∧ Suf t s e
  | [], acc, m + 1, b, _, _, h => by
    have hc := Suf.head (t := t) (s := s) (a := b) (c := 41) h
    refine ⟨b + 1, ?_, Suf.cons h⟩
    unfold rdT
    rw [if_pos hc, List.append_nil]
  | [x], acc, m + 1, b, hx, hm, h => by
    have h : Suf t (shwN g n x ++ (g.tail ++ (41 :: s))) b := h
    obtain ⟨c, r, e1, e2, e3⟩ := shw_head (g := g) (okR_okV (hx x (by simp)))
    have hc : t[b]? = some c := by
      have h' := h
      rw [e1] at h'
      exact h'.head
    obtain ⟨e, e4, e5⟩ := hrd x b _ (hx x (by simp)) h (fun c' r' z => by
      cases hgt : g.tail with
      | nil => rw [hgt] at z; injection z with z; exact .inr z.symm
      | cons c2 r2 => rw [hgt] at z; injection z with z; exact .inl (by rw [← z]; exact hg.tail c2 (by rw [hgt]; simp)))
    have hk : Suf t (41 :: s) (sk t e) := e5.skip hg.tail (fun c' r' z => by injection z with z; rw [← z]; decide +kernel)
    obtain ⟨e', e6, e7⟩ := rd_tup (s := s) hg hrd [] (acc ++ [x]) m (sk t e) (fun _ hx => by cases hx) (by simpa using hm) hk
    refine ⟨e', ?_, e7⟩
    unfold rdT
    rw [hc, if_neg (by intro z; injection z with z; exact e3 z), e4]
    simp only
    rw [e6, List.append_nil]
  | x :: y :: l, acc, m + 1, b, hx, hm, h => by
    have h : Suf t (shwN g n x ++ (g ++ jL g ((y :: l).map (shwN g n))) ++ (g.tail ++ (41 :: s))) b := h
    rw [List.append_assoc, List.append_assoc] at h
    obtain ⟨c, r, e1, e2, e3⟩ := shw_head (g := g) (okR_okV (hx x (by simp)))
    have hc : t[b]? = some c := by
      have h' := h
      rw [e1] at h'
      exact h'.head
    obtain ⟨g0, gr, egg⟩ : ∃ c r, g = c :: r := by cases g with | nil => exact absurd rfl hg.ne | cons c r => exact ⟨c, r, rfl⟩
    obtain ⟨e, e4, e5⟩ := hrd x b _ (hx x (by simp)) h (fun c' r' z => by
      rw [egg] at z
      injection z with z
      exact .inl (by rw [← z]; exact hg.bl g0 (by rw [egg]; simp)))
    obtain ⟨c2, r2, f1, f2, f3⟩ := shw_head (g := g) (okR_okV (hx y (by simp)))
    have hk := e5.skip hg.bl (fun c' r' z => by
      have : jL g ((y :: l).map (shwN g n)) = c2 :: (r2 ++ (jL g ((y :: l).map (shwN g n))).drop (shwN g n y).length) := by
        cases l with
        | nil =>
          show shwN g n y = _
          rw [List.map_cons, List.map_nil, jL_one, List.drop_length, List.append_nil, f1]
        | cons z0 l0 =>
          show shwN g n y ++ _ = _
          rw [List.map_cons, List.map_cons, jL_cons, List.drop_left, f1]
          rfl
      rw [this] at z
      injection z with z
      rw [← z]; exact f2)
    obtain ⟨e', e6, e7⟩ := rd_tup (s := s) hg hrd (y :: l) (acc ++ [x]) m (sk t e) (fun z hz => hx z (by simp [hz])) (by simpa using hm) hk
    refine ⟨e', ?_, e7⟩
    unfold rdT
    rw [hc, if_neg (by intro z; injection z with z; exact e3 z), e4]
    simp only
    rw [e6, List.append_assoc]
    rfl
theorem rd_shw {g t : List Nat} (hg : okG g) : ∀ (n N : Nat) (d : D) (a : Nat) (s : List Nat), n ≤ N → okR n d → Suf t (shwN g n d ++ s) a → stopR s → ∃ e, rdV t N a = .yes d (sk t e) ∧ Suf t s e
  | n + 1, N + 1, .tup l, a, s, hn, hv, h, hs => by
    obtain ⟨h1, h2⟩ : l.length ≤ 1000 ∧ ∀ x ∈ l, okR n x := hv
    have h : Suf t ([40] ++ g.tail ++ jL g (l.map (shwN g n)) ++ g.tail ++ [41] ++ s) a := h
    simp only [List.append_assoc, List.singleton_append, List.cons_append, List.nil_append] at h
    have hc := h.head
    have h3 := h.cons
    have hk : Suf t (jL g (l.map (shwN g n)) ++ ((if l = [] then [] else g.tail) ++ (41 :: s))) (sk t (a + 1)) := by
      cases l with
      | nil =>
        have h3 : Suf t ((g.tail ++ g.tail) ++ (41 :: s)) (a + 1) := by
          have e : g.tail ++ (jL g (List.map (shwN g n) []) ++ (g.tail ++ 41 :: s)) = (g.tail ++ g.tail) ++ (41 :: s) := by
            rw [List.map_nil, jL_nil]; simp
          rw [← e]; exact h3
        exact h3.skip (fun c hc => by rcases List.mem_append.mp hc with hc | hc <;> exact hg.tail c hc) (fun c' r' z => by injection z with z; rw [← z]; decide +kernel)
      | cons x l =>
        rw [if_neg (by simp)]
        obtain ⟨c2, r2, f1, f2, f3⟩ := shw_head (g := g) (okR_okV (h2 x (by simp)))
        refine h3.skip hg.tail (fun c' r' z => ?_)
        have : ∃ r3, jL g ((x :: l).map (shwN g n)) = c2 :: r3 := by
          cases l with
          | nil => exact ⟨r2, by rw [List.map_cons, List.map_nil, jL_one, f1]⟩
          | cons z0 l0 => exact ⟨_, by rw [List.map_cons, List.map_cons, jL_cons, f1]; rfl⟩
        obtain ⟨r3, e3⟩ := this
        rw [e3] at z
        injection z with z
        rw [← z]; exact f2
    have hl : l.length < t.length + 1 := by
      have a1 := jL_len g (l.map (shwN g n))
      have a2 := congrArg List.length hk.eq
      have gl : 0 < g.length := by cases g with | nil => exact absurd rfl hg.ne | cons => simp
      rw [List.length_drop, List.length_append, List.length_append, List.length_cons] at a2
      have a3 : (l.map (shwN g n)).length * g.length ≥ l.length := by
        rw [List.length_map]
        exact Nat.le_mul_of_pos_right _ gl
      have a4 : l = [] ∨ g.length = g.tail.length + 1 := by
        right
        cases g with
        | nil => exact absurd rfl hg.ne
        | cons => simp
      rcases a4 with a4 | a4
      · rw [a4]; simp
      · by_cases hl0 : l = []
        · rw [hl0]; simp
        · rw [if_neg hl0] at a2
          omega
    obtain ⟨e, e1, e2⟩ := rd_tup (s := s) hg (n := n) (rd := rdV t N) (fun x b s' hx hb hs' => rd_shw hg n N x b s' (by omega) hx hb hs') l [] (t.length + 1) (sk t (a + 1)) h2 hl hk
    refine ⟨e, ?_, e2⟩
    unfold rdV
    rw [if_pos hc, e1, List.nil_append]
  | n + 1, N + 1, .str x, a, s, hn, hv, h, hs => by
    have h : Suf t ([39] ++ x.flatMap escC ++ [39] ++ s) a := h
    simp only [List.append_assoc, List.singleton_append, List.cons_append, List.nil_append] at h
    have hc := h.head
    have hl : x.length < t.length + 1 := by
      have a2 := congrArg List.length h.cons.eq
      rw [List.length_drop, List.length_append, List.length_cons] at a2
      have a3 : ∀ y : List Nat, y.length ≤ (y.flatMap escC).length := by
        intro y
        induction y with
        | nil => simp
        | cons c y ih =>
          rw [List.flatMap_cons, List.length_append, List.length_cons]
          have : 1 ≤ (escC c).length := by unfold escC; (repeat' split) <;> simp
          omega
      have := a3 x
      omega
    obtain ⟨e, e1, e2⟩ := rd_quote (s := s) x (t.length + 1) (a + 1) [] h.cons hl
    refine ⟨e, ?_, e2⟩
    rw [rdV_eq, hc, if_neg (by decide)]
    unfold rdL
    rw [hc, if_pos rfl, e1]
    rfl
  | n + 1, N + 1, .non, a, s, hn, hv, h, hs => by
    have h : Suf t (cs "none" ++ s) a := h
    have hc : t[a]? = some 110 := by have h' := h; rw [csN] at h'; exact h'.head
    obtain ⟨e, e1, e2⟩ := rd_word h hs (by rw [csN]; decide) (fun _ => .inl ⟨rfl, rfl⟩)
    exact ⟨e, by rw [rdV_eq, hc, if_neg (by decide), e1], e2⟩
  | n + 1, N + 1, .bl true, a, s, hn, hv, h, hs => by
    have h : Suf t (cs "true" ++ s) a := h
    have hc : t[a]? = some 116 := by have h' := h; rw [csT] at h'; exact h'.head
    obtain ⟨e, e1, e2⟩ := rd_word h hs (by rw [csT]; decide) (fun _ => .inr (.inl ⟨rfl, rfl⟩))
    exact ⟨e, by rw [rdV_eq, hc, if_neg (by decide), e1], e2⟩
  | n + 1, N + 1, .bl false, a, s, hn, hv, h, hs => by
    have h : Suf t (cs "false" ++ s) a := h
    have hc : t[a]? = some 102 := by have h' := h; rw [csF] at h'; exact h'.head
    obtain ⟨e, e1, e2⟩ := rd_word h hs (by rw [csF]; decide) (fun _ => .inr (.inr ⟨rfl, rfl⟩))
    exact ⟨e, by rw [rdV_eq, hc, if_neg (by decide), e1], e2⟩
  | n + 1, N + 1, .int i, a, s, hn, hv, h, hs => by
    have h : Suf t (istr i ++ s) a := h
    have hv : i.natAbs < 10 ^ 40 := hv
    obtain ⟨e, e1, e2⟩ := (rd_int h hs).1 hv
    obtain ⟨c, r, f1, f2, f3⟩ := shw_head (g := g) (n := n + 1) (d := .int i) (okR_okV (n := n + 1) (d := .int i) hv)
    have f1 : istr i = c :: r := f1
    have hc : t[a]? ≠ some 40 := by
      have h' := h
      rw [f1] at h'
      rw [h'.head]
      intro z
      injection z with z
      subst z
      obtain ⟨k, hk⟩ : ∃ k : Nat, i = (k : Int) ∨ (0 < k ∧ i = -(k : Int)) := ⟨i.natAbs, by omega⟩
      rcases hk with rfl | ⟨hp, rfl⟩
      · rw [istr_nat] at f1
        have := TL.numL_digits k 40 (by rw [f1]; simp)
        omega
      · obtain ⟨m, rfl⟩ : ∃ m, k = m + 1 := ⟨k - 1, by omega⟩
        rw [istr_neg] at f1
        injection f1 with f1
        omega
    exact ⟨e, by rw [rdV_eq, if_neg hc, e1], e2⟩
end K80

namespace K80
open PySem PySem.Spec PyProof.Rows L2 Fx
/-! ### the law's facts -/
theorem sameL_imp {R Q : D → D → Prop} (h : ∀ x y, R x y → Q x y) : ∀ {xs ys : List D}, sameL R xs ys → sameL Q xs ys
  | [], [], _ => trivial
  | x :: xs, y :: ys, ⟨a, b⟩ => ⟨h x y a, sameL_imp h b⟩
  | [], _ :: _, h => h.elim
  | _ :: _, [], h => h.elim
theorem SameP_step {S : List Cell} : ∀ {n : Nat} {a b : D}, SameP S n a b → SameP S (n + 1) a b := by
  intro n
  induction n with
  | zero => intro a b h; exact h.elim
  | succ n ih =>
    intro a b h
    cases a with
    | tup xs => cases b with
      | tup ys => exact ⟨h.1, sameL_imp (fun x y => ih) h.2⟩
      | _ => exact h.elim
    | loc i => cases b with
      | loc j =>
        obtain ⟨xs, ys, h1, h2, h3, h4⟩ := h
        exact ⟨xs, ys, h1, h2, h3, sameL_imp (fun x y => ih) h4⟩
      | _ => exact h.elim
    | _ => cases b <;> first | exact h | exact h.elim
theorem SameP_mono {S : List Cell} {n m : Nat} {a b : D} (hm : n ≤ m) (h : SameP S n a b) : SameP S m a b := by
  obtain ⟨k, rfl⟩ := Nat.exists_eq_add_of_le hm
  induction k with
  | zero => exact h
  | succ k ih => exact SameP_step (ih (by omega))
theorem okR_step : ∀ {n : Nat} {d : D}, okR n d → okR (n + 1) d
  | n + 1, .tup l, h => ⟨h.1, fun x hx => okR_step (h.2 x hx)⟩
  | n + 1, .str x, h => h
  | n + 1, .non, _ => trivial
  | n + 1, .bl _, _ => trivial
  | n + 1, .int i, h => h
theorem okV_step : ∀ {n : Nat} {d : D}, okV n d → okV (n + 1) d
  | n + 1, .tup l, h => ⟨h.1, fun x hx => okV_step (h.2 x hx)⟩
  | n + 1, .str x, h => h
  | n + 1, .non, _ => trivial
  | n + 1, .bl _, _ => trivial
  | n + 1, .int i, h => h
theorem shw_step (g : List Nat) : ∀ {n : Nat} {d : D}, okV n d → shwN g (n + 1) d = shwN g n d
  | n + 1, .tup l, h => by
    show [40] ++ g.tail ++ jL g (l.map (shwN g (n + 1))) ++ g.tail ++ [41] = [40] ++ g.tail ++ jL g (l.map (shwN g n)) ++ g.tail ++ [41]
    rw [List.map_congr_left fun x hx => shw_step g (h.2 x hx)]
  | n + 1, .str x, h => rfl
  | n + 1, .non, _ => rfl
  | n + 1, .bl _, _ => rfl
  | n + 1, .int i, h => rfl
theorem okV_mono {n m : Nat} {d : D} (hm : n ≤ m) (h : okV n d) : okV m d := by
  obtain ⟨k, rfl⟩ := Nat.exists_eq_add_of_le hm
  induction k with
  | zero => exact h
  | succ k ih => exact okV_step (ih (by omega))
theorem shw_mono (g : List Nat) {n m : Nat} {d : D} (hm : n ≤ m) (h : okV n d) : shwN g m d = shwN g n d := by
  obtain ⟨k, rfl⟩ := Nat.exists_eq_add_of_le hm
  induction k with
  | zero => rfl
  | succ k ih =>
    have h2 : shwN g (n + k + 1) d = shwN g (n + k) d := shw_step g (okV_mono (by omega) h)
    exact h2.trans (ih (by omega))
/-! #### lengths and signs -/
theorem jL_le (g : List Nat) (L : Nat) : ∀ ys : List (List Nat), (∀ y ∈ ys, y.length ≤ L) → (jL g ys).length ≤ ys.length * (L + g.length)
  | [], _ => by simp [jL_nil]
  | [x], h => by
    have := h x (by simp)
    rw [jL_one]
    simp
    omega
  | x :: y :: r, h => by
    have h1 := h x (by simp)
    have h2 := jL_le g L (y :: r) (fun z hz => h z (by simp [hz]))
    rw [jL_cons, List.length_append, List.length_append]
    have e : (x :: y :: r).length * (L + g.length) = (y :: r).length * (L + g.length) + (L + g.length) := by
      rw [List.length_cons, Nat.succ_mul]
    omega
theorem jL_okT {g : List Nat} (hg : okT g = true) : ∀ ys : List (List Nat), (∀ y ∈ ys, okT y = true) → okT (jL g ys) = true
  | [], _ => rfl
  | [x], h => h x (by simp)
  | x :: y :: r, h => okT_app (h x (by simp)) (okT_app hg (jL_okT hg (y :: r) (fun z hz => h z (by simp [hz]))))
theorem okT_of {x : List Nat} (h : ∀ c ∈ x, c < 0x110000) : okT x = true := by
  unfold okT
  rw [List.all_eq_true]
  exact fun c hc => by simpa using h c hc
theorem okT_esc {x : List Nat} (h : okT x = true) : okT (quoteT x) = true := by
  refine okT_app (okT_app (by decide) (okT_of fun c hc => ?_)) (by decide)
  obtain ⟨d, hd, hc⟩ := List.mem_flatMap.mp hc
  have := okT_mem h d hd
  unfold escC at hc
  split at hc
  · simp at hc; omega
  · split at hc
    · simp at hc; omega
    · split at hc
      · simp at hc; omega
      · split at hc
        · simp at hc; omega
        · simp at hc; omega
theorem okT_tail {g : List Nat} (h : okT g = true) : okT g.tail = true := okT_of fun c hc => okT_mem h c (List.mem_of_mem_tail hc)
theorem istr_cases (i : Int) : ∃ n, i.natAbs = n ∧ (istr i = TL.numL n ∨ istr i = 45 :: TL.numL n) := by
  obtain ⟨k, hk⟩ : ∃ k : Nat, i = (k : Int) ∨ (0 < k ∧ i = -(k : Int)) := ⟨i.natAbs, by omega⟩
  rcases hk with rfl | ⟨hp, rfl⟩
  · exact ⟨k, by omega, .inl (istr_nat k)⟩
  · obtain ⟨m, rfl⟩ : ∃ m, k = m + 1 := ⟨k - 1, by omega⟩
    exact ⟨m + 1, by omega, .inr (istr_neg m)⟩
theorem istr_len {i : Int} {k : Nat} (hk : 0 < k) (h : i.natAbs < 10 ^ k) : (istr i).length ≤ k + 1 := by
  obtain ⟨n, hn, e | e⟩ := istr_cases i
  · rw [e]; have := TL.numL_len (n := n) hk (by omega); omega
  · rw [e, List.length_cons]; have := TL.numL_len (n := n) hk (by omega); omega
theorem istr_okT (i : Int) : okT (istr i) = true := by
  have hn : ∀ n, ∀ c ∈ TL.numL n, c < 0x110000 := fun n c hc => by have := TL.numL_digits n c hc; omega
  obtain ⟨n, hn', e | e⟩ := istr_cases i
  · rw [e]; exact okT_of (hn n)
  · rw [e]
    refine okT_of fun c hc => ?_
    rcases List.mem_cons.mp hc with hc | hc
    · omega
    · exact hn n c hc
theorem shw_okT {g : List Nat} (hg : okT g = true) : ∀ {n : Nat} {d : D}, okV n d → okT (shwN g n d) = true
  | n + 1, .tup l, h => okT_app (okT_app (okT_app (okT_app (by decide) (okT_tail hg)) (jL_okT hg _ fun y hy => by
      obtain ⟨x, hx, rfl⟩ := List.mem_map.mp hy
      exact shw_okT hg (h.2 x hx))) (okT_tail hg)) (by decide)
  | n + 1, .str x, h => okT_esc h.1
  | n + 1, .non, _ => oN
  | n + 1, .bl true, _ => oT
  | n + 1, .bl false, _ => oF
  | n + 1, .int i, h => istr_okT i
theorem tup_len (g : List Nat) (n : Nat) (l : List D) : (shwN g (n + 1) (.tup l)).length = 2 + 2 * g.tail.length + (jL g (l.map (shwN g n))).length := by
  show ([40] ++ g.tail ++ jL g (l.map (shwN g n)) ++ g.tail ++ [41]).length = _
  simp only [List.length_append, List.length_singleton]; omega
/-! #### what is drawn -/
def lenD : Nat → Nat
  | 0 => 20
  | n + 1 => 3 * lenD n + 20
theorem leaf_ok {v : Int} {d : D} (h0 : 0 ≤ v) (h1 : v < 2000) (h : d ∈ leafs v) (n : Nat) (g : List Nat) : okR (n + 1) d ∧ (shwN g (n + 1) d).length ≤ 20 := by
  simp only [leafs, List.mem_cons, List.not_mem_nil, or_false] at h
  rcases h with rfl | rfl | rfl | rfl | rfl | rfl | rfl | rfl
  · have hb : (v - 1000).natAbs < 10 ^ 4 := by omega
    refine ⟨Nat.lt_trans hb (by decide +kernel), ?_⟩
    have := istr_len (i := v - 1000) (k := 4) (by decide) hb
    show (istr (v - 1000)).length ≤ 20
    omega
  · exact ⟨⟨by decide, by decide⟩, by show (quoteT []).length ≤ 20; decide⟩
  · exact ⟨⟨by decide, by decide⟩, by show (quoteT t1).length ≤ 20; decide⟩
  · exact ⟨⟨by decide, by decide⟩, by show (quoteT t2).length ≤ 20; decide⟩
  · exact ⟨trivial, by show (cs "none").length ≤ 20; decide +kernel⟩
  · exact ⟨trivial, by show (cs "true").length ≤ 20; decide +kernel⟩
  · exact ⟨trivial, by show (cs "false").length ≤ 20; decide +kernel⟩
  · refine ⟨by show (0 : Int).natAbs < 10 ^ 40; decide +kernel, ?_⟩
    have := istr_len (i := 0) (k := 1) (by decide) (by decide)
    show (istr 0).length ≤ 20
    omega
theorem lenD_ge : ∀ n, 20 ≤ lenD n
  | 0 => by unfold lenD; omega
  | n + 1 => by unfold lenD; omega
theorem drawn_ok {g : List Nat} (hg : g.length ≤ 4) : ∀ {n : Nat} {d : D}, isDrawn n d → okR (n + 1) d ∧ (shwN g (n + 1) d).length ≤ lenD n
  | 0, d, ⟨v, h0, h1, h⟩ => leaf_ok h0 h1 h 0 g
  | n + 1, d, .inl ⟨v, h0, h1, h⟩ => by
    obtain ⟨a, b⟩ := leaf_ok h0 h1 h (n + 1) g
    have := lenD_ge (n + 1)
    exact ⟨a, by omega⟩
  | n + 1, d, .inr ⟨l, e, hl, h⟩ => by
    subst e
    refine ⟨⟨by omega, fun x hx => (drawn_ok hg (h x hx)).1⟩, ?_⟩
    rw [tup_len]
    have h1 := jL_le g (lenD n) (l.map (shwN g (n + 1))) (fun y hy => by
      obtain ⟨x, hx, rfl⟩ := List.mem_map.mp hy
      exact (drawn_ok hg (h x hx)).2)
    rw [List.length_map] at h1
    have h2 : l.length * (lenD n + g.length) ≤ 3 * (lenD n + 4) := Nat.mul_le_mul hl (by omega)
    have h3 : g.tail.length ≤ 3 := by rw [List.length_tail]; omega
    unfold lenD
    omega
/-! #### reading whole texts -/
theorem rdS_shw {g p q : List Nat} (hg : okG g) (hp : ∀ c ∈ p, blankC c = true) (hq : ∀ c ∈ q, blankC c = true) {n : Nat} {d : D} (hn : n ≤ 20) (h : okR n d) : ∃ b, rdS (p ++ shwN g n d ++ q) = .yes d b := by
  have h0 : Suf (p ++ shwN g n d ++ q) (p ++ (shwN g n d ++ q)) 0 := ⟨Nat.zero_le _, by rw [List.drop_zero, List.append_assoc]⟩
  obtain ⟨c, r, e1, e2, e3⟩ := shw_head (g := g) (okR_okV h)
  have h1 := h0.skip hp (fun c' r' z => by rw [e1] at z; injection z with z; rw [← z]; exact e2)
  obtain ⟨e, e4, e5⟩ := rd_shw hg n 20 d _ q hn h h1 (fun c r z => .inl (hq c (by rw [z]; simp)))
  have h2 : Suf (p ++ shwN g n d ++ q) [] (sk (p ++ shwN g n d ++ q) e) := Suf.skip (x := q) (by rw [List.append_nil]; exact e5) hq (fun c r z => by cases z)
  refine ⟨sk (p ++ shwN g n d ++ q) e, ?_⟩
  unfold rdS
  rw [e4]
  exact if_neg (by rw [h2.end]; omega)
def yesB : Rd → Bool
  | .yes _ _ => true
  | .no _ => false
theorem isT_ok : ∀ {n N : Nat} {d : D}, n ≤ N → okR n d → isT N d = true
  | n + 1, N + 1, .tup l, hn, h => by
    show l.all (isT N) = true
    rw [List.all_eq_true]
    exact fun x hx => isT_ok (by omega) (h.2 x hx)
  | n + 1, N + 1, .str x, _, _ => rfl
  | n + 1, N + 1, .non, _, _ => rfl
  | n + 1, N + 1, .bl _, _, _ => rfl
  | n + 1, N + 1, .int i, _, h => by
    have h : i.natAbs < 10 ^ 40 := h
    show (decide _ && decide _) = true
    rw [Bool.and_eq_true, decide_eq_true_eq, decide_eq_true_eq]
    omega
theorem isT_int (N : Nat) (i : Int) : isT N (.int i) = decide (i.natAbs < 10 ^ 40) := by
  have e : (decide (-10000000000000000000000000000000000000000 < i) && decide (i < 10000000000000000000000000000000000000000)) = decide (i.natAbs < 10 ^ 40) := by
    rw [← Bool.decide_and]
    refine decide_eq_decide.mpr ?_
    omega
  cases N <;> exact e
theorem okV_vD {S : List Cell} : ∀ {n m : Nat} {d : D}, okV n d → vD S m d
  | n + 1, 0, .tup l, h => trivial
  | n + 1, m + 1, .tup l, h => ⟨h.1, fun x hx => okV_vD (h.2 x hx)⟩
  | n + 1, 0, .str _, h => trivial
  | n + 1, 0, .non, h => trivial
  | n + 1, 0, .bl _, h => trivial
  | n + 1, 0, .int _, h => trivial
  | n + 1, m + 1, .str _, h => trivial
  | n + 1, m + 1, .non, h => trivial
  | n + 1, m + 1, .bl _, h => trivial
  | n + 1, m + 1, .int _, h => trivial
/-- what the last loop asks of a value -/
structure Jd (d : D) : Prop where
  v : okV 23 d
  len : (shwN [32] 23 d).length ≤ 200
  y : yesB (rdS (shwN [32] 23 d)) = isT 20 d
theorem g32 : okG [32] := ⟨by decide, by decide⟩
theorem nb : ∀ c ∈ ([] : List Nat), blankC c = true := fun c hc => by cases hc
theorem j_of {n : Nat} {d : D} (hn : n ≤ 20) (h : okR n d) (hl : (shwN [32] n d).length ≤ 200) : Jd d := by
  have e := shw_mono [32] (n := n) (m := 23) (by omega) (okR_okV h)
  refine ⟨okV_mono (by omega) (okR_okV h), by rw [e]; exact hl, ?_⟩
  obtain ⟨b, hb⟩ := rdS_shw g32 nb nb hn h
  rw [List.nil_append, List.append_nil] at hb
  rw [e, hb, isT_ok hn h]
  rfl
theorem j_no {n : Nat} {d : D} {N : Nat} (hn : n ≤ 23) (h : okV n d) (hl : (shwN [32] n d).length ≤ 200) (hT : isT 20 d = false) (hr : ∀ t s a, Suf t (shwN [32] n d ++ s) a → stopR s → ∃ p, rdV t 20 a = .no p) : Jd d := by
  have e := shw_mono [32] (n := n) (m := 23) (by omega) h
  refine ⟨okV_mono hn h, by rw [e]; exact hl, ?_⟩
  have h0 : Suf (shwN [32] n d) (shwN [32] n d ++ []) 0 := ⟨Nat.zero_le _, by rw [List.drop_zero, List.append_nil]⟩
  obtain ⟨c, r, e1, e2, e3⟩ := shw_head (g := [32]) h
  have h1 := Suf.skip0 h0 (fun c' r' z => by rw [List.append_nil, e1] at z; injection z with z; rw [← z]; exact e2)
  obtain ⟨p, hp⟩ := hr _ _ _ h1 (fun c r z => by cases z)
  rw [e, hT]
  unfold rdS
  rw [hp]
  rfl
theorem j_int {i : Int} (h : i.natAbs < 10 ^ 42) : Jd (.int i) := by
  have hl : (istr i).length ≤ 200 := by have := istr_len (i := i) (k := 42) (by decide) h; omega
  by_cases hb : i.natAbs < 10 ^ 40
  · exact j_of (n := 1) (by omega) hb hl
  · refine j_no (n := 1) (N := 0) (by omega) h hl (by rw [isT_int]; exact decide_eq_false hb) fun t s a hs hst => ?_
    have hs : Suf t (istr i ++ s) a := hs
    have hr := (rd_int hs hst).2 hb
    refine ⟨a, ?_⟩
    have hc : t[a]? ≠ some 40 := by
      intro hc
      have hbad : istr i ++ s ≠ [] ∧ ∀ r, istr i ++ s ≠ 40 :: r := by
        obtain ⟨n, hn, e | e⟩ := istr_cases i
        · cases e2 : TL.numL n with
          | nil => exact absurd e2 (TL.numL_ne n)
          | cons c r =>
            have := TL.numL_digits n c (by rw [e2]; simp)
            rw [e, e2]
            exact ⟨by simp, fun r z => by injection z with z; omega⟩
        · rw [e]
          exact ⟨by simp, fun r z => by injection z with z; omega⟩
      cases e : istr i ++ s with
      | nil => exact hbad.1 e
      | cons c r =>
        rw [e] at hs
        rw [hs.head] at hc
        injection hc with hc
        rw [hc] at e
        exact hbad.2 r e
    rw [rdV_eq, if_neg hc, hr]
theorem rd_40 {t r : List Nat} {a n : Nat} (h : Suf t (40 :: r) a) : rdV t (n + 1) a = rdT (rdV t n) t (t.length + 1) (sk t (a + 1)) [] := by
  unfold rdV
  rw [if_pos h.head]
theorem rdV_int_no {t s : List Nat} {a n : Nat} {i : Int} (h : Suf t (istr i ++ s) a) (hs : stopR s) (hb : ¬ i.natAbs < 10 ^ 40) : rdV t n a = .no a ∧ t[a]? ≠ some 41 := by
  have hr := (rd_int h hs).2 hb
  have hbad : istr i ++ s ≠ [] ∧ ∀ r c, istr i ++ s = c :: r → c ≠ 40 ∧ c ≠ 41 := by
    obtain ⟨n, hn, e | e⟩ := istr_cases i
    · cases e2 : TL.numL n with
      | nil => exact absurd e2 (TL.numL_ne n)
      | cons c r =>
        have := TL.numL_digits n c (by rw [e2]; simp)
        rw [e, e2]
        exact ⟨by simp, fun r c z => by injection z with z; omega⟩
    · rw [e]
      exact ⟨by simp, fun r c z => by injection z with z; omega⟩
  cases e : istr i ++ s with
  | nil => exact absurd e hbad.1
  | cons c r =>
    have hb := hbad.2 r c e
    rw [e] at h
    have hc := h.head
    rw [rdV_eq, hc, if_neg (by intro z; injection z with z; exact hb.1 z), hr]
    exact ⟨rfl, by intro z; injection z with z; exact hb.2 z⟩
theorem j_pair {i : Int} (h : i.natAbs < 10 ^ 42) : Jd (.tup [.int 1, .int i]) := by
  have e1 : istr 1 = [49] := istr_nat 1
  have et : shwN [32] 2 (.tup [.int 1, .int i]) = 40 :: 49 :: 32 :: (istr i ++ [41]) := by
    show [40] ++ [] ++ jL [32] [istr 1, istr i] ++ [] ++ [41] = _
    rw [jL_cons, jL_one, e1]
    simp
  have hl : (shwN [32] 2 (.tup [.int 1, .int i])).length ≤ 200 := by
    rw [et]
    have := istr_len (i := i) (k := 42) (by decide) h
    simp
    omega
  by_cases hb : i.natAbs < 10 ^ 40
  · refine j_of (n := 2) (by omega) ⟨by simp, fun x hx => ?_⟩ hl
    simp only [List.mem_cons, List.not_mem_nil, or_false] at hx
    rcases hx with rfl | rfl
    · show (1 : Int).natAbs < 10 ^ 40; decide +kernel
    · exact hb
  · refine j_no (n := 2) (N := 0) (by omega) ⟨by simp, fun x hx => ?_⟩ hl ?_ fun t s a hs hst => ?_
    · simp only [List.mem_cons, List.not_mem_nil, or_false] at hx
      rcases hx with rfl | rfl
      · show (1 : Int).natAbs < 10 ^ 42; decide +kernel
      · exact h
    · show [D.int 1, .int i].all (isT 19) = false
      simp only [List.all_cons, List.all_nil, isT_int, decide_eq_false hb, Bool.and_true, Bool.and_false]
    · rw [et] at hs
      simp only [List.cons_append, List.append_assoc, List.singleton_append] at hs
      have h1 := hs.cons
      have s1 : sk t (a + 1) = a + 1 := by
        refine scan_stop h1.head (by decide +kernel)
      have h2 : Suf t (istr 1 ++ (32 :: (istr i ++ 41 :: s))) (a + 1) := by rw [e1]; exact h1
      obtain ⟨e, r1, r2⟩ := (rd_int h2 (fun c r z => by injection z with z; exact .inl (by rw [← z]; decide +kernel))).1 (by decide +kernel)
      obtain ⟨n, hn, ei⟩ := istr_cases i
      have h3 : Suf t (istr i ++ 41 :: s) (sk t e) := Suf.skip (x := [32]) r2 (by decide) (fun c r z => by
        have hne := TL.numL_ne n
        rcases ei with ei | ei
        · cases e2 : TL.numL n with
          | nil => exact absurd e2 hne
          | cons c' r' =>
            have := TL.numL_digits n c' (by rw [e2]; simp)
            rw [ei, e2] at z
            injection z with z
            exact blank_not (by omega) (by omega)
        · rw [ei] at z
          injection z with z
          exact blank_not (by omega) (by omega))
      obtain ⟨n1, n2⟩ := rdV_int_no (n := 19) h3 (fun c r z => by injection z with z; exact .inr z.symm) hb
      refine ⟨sk t e, ?_⟩
      rw [rd_40 (n := 19) hs, s1]
      have hlen : ∃ m, t.length + 1 = m + 1 + 1 := ⟨t.length - 1, by have := (List.getElem?_eq_some_iff.mp hs.head).1; omega⟩
      obtain ⟨m, hm⟩ := hlen
      rw [hm]
      unfold rdT
      have h49 := h1.head
      rw [h49, if_neg (by decide)]
      have rv : rdV t 19 (a + 1) = .yes (.int 1) (sk t e) := by rw [rdV_eq, h49, if_neg (by decide), r1]
      rw [rv]
      simp only
      unfold rdT
      rw [if_neg n2, n1]
/-! #### tuples in tuples -/
def chainV : List Bool → D
  | [] => .tup []
  | true :: r => .tup [chainV r, .int 1]
  | false :: r => .tup [chainV r]
theorem chain_ok : ∀ r : List Bool, okR (r.length + 1) (chainV r)
  | [] => ⟨by simp, fun x hx => by cases hx⟩
  | true :: r => ⟨by simp, fun x hx => by
    simp only [List.mem_cons, List.not_mem_nil, or_false] at hx
    rcases hx with rfl | rfl
    · exact chain_ok r
    · show (1 : Int).natAbs < 10 ^ 40; decide +kernel⟩
  | false :: r => ⟨by simp, fun x hx => by
    simp only [List.mem_cons, List.not_mem_nil, or_false] at hx
    rw [hx]
    exact chain_ok r⟩
theorem chain_len : ∀ r : List Bool, (shwN [32] (r.length + 1) (chainV r)).length ≤ 2 + 4 * r.length
  | [] => by
    rw [List.length_nil]
    show (shwN [32] 1 (.tup [])).length ≤ 2
    rw [tup_len]
    simp [jL_nil]
  | true :: r => by
    have ih := chain_len r
    rw [List.length_cons]
    show (shwN [32] (r.length + 1 + 1) (.tup [chainV r, .int 1])).length ≤ _
    rw [tup_len, List.map_cons, List.map_cons, List.map_nil, jL_cons, jL_one, show shwN [32] (r.length + 1) (.int 1) = [49] from istr_nat 1]
    simp only [List.length_append, List.length_singleton, List.tail_cons, List.length_nil]
    omega
  | false :: r => by
    have ih := chain_len r
    rw [List.length_cons]
    show (shwN [32] (r.length + 1 + 1) (.tup [chainV r])).length ≤ _
    rw [tup_len, List.map_cons, List.map_nil, jL_one]
    simp only [List.tail_cons, List.length_nil]
    omega
theorem chain_isT : ∀ (r : List Bool) (N : Nat), isT N (chainV r) = decide (r.length < N)
  | [], 0 => rfl
  | [], N + 1 => by show ([] : List D).all (isT N) = _; simp
  | true :: r, 0 => by simp [chainV, isT]
  | false :: r, 0 => by simp [chainV, isT]
  | true :: r, N + 1 => by
    show [chainV r, D.int 1].all (isT N) = _
    simp only [List.all_cons, List.all_nil, chain_isT r N, isT_int, List.length_cons]
    have : decide ((1 : Int).natAbs < 10 ^ 40) = true := by decide +kernel
    rw [this]
    simp
  | false :: r, N + 1 => by
    show [chainV r].all (isT N) = _
    simp only [List.all_cons, List.all_nil, chain_isT r N, List.length_cons]
    simp
theorem chain_text (r : List Bool) : ∃ x, shwN [32] (r.length + 1) (chainV r) = 40 :: x := by
  cases r with
  | nil => exact ⟨_, rfl⟩
  | cons b r => cases b <;> exact ⟨_, rfl⟩
theorem chain_no {t : List Nat} : ∀ (N : Nat) (r : List Bool) (a : Nat) (s : List Nat), N ≤ r.length → Suf t (shwN [32] (r.length + 1) (chainV r) ++ s) a → ∃ p, rdV t N a = .no p
  | 0, r, a, s, _, h => by
    obtain ⟨x, e⟩ := chain_text r
    rw [e] at h
    refine ⟨a, ?_⟩
    unfold rdV
    rw [if_pos h.head]
  | N + 1, [], a, s, hn, h => by simp at hn
  | N + 1, b :: r, a, s, hn, h => by
    obtain ⟨x, hx⟩ : ∃ x, shwN [32] (r.length + 1 + 1) (chainV (b :: r)) = 40 :: (shwN [32] (r.length + 1) (chainV r) ++ x) := by
      cases b with
      | true =>
        refine ⟨[32] ++ [49] ++ [41], ?_⟩
        show [40] ++ [] ++ jL [32] [shwN [32] (r.length + 1) (chainV r), istr 1] ++ [] ++ [41] = _
        rw [jL_cons, jL_one, show istr 1 = [49] from istr_nat 1]
        simp
      | false =>
        refine ⟨[41], ?_⟩
        show [40] ++ [] ++ jL [32] [shwN [32] (r.length + 1) (chainV r)] ++ [] ++ [41] = _
        rw [jL_one]
        simp
    rw [List.length_cons, hx, List.cons_append, List.append_assoc] at h
    have h1 := h.cons
    obtain ⟨p, hp⟩ := chain_no N r (a + 1) _ (by rw [List.length_cons] at hn; omega) h1
    obtain ⟨y, ey⟩ := chain_text r
    rw [ey] at h1
    have hc := h1.head
    have s1 : sk t (a + 1) = a + 1 := scan_stop hc (by decide +kernel)
    refine ⟨p, ?_⟩
    rw [rd_40 (n := N) h, s1]
    unfold rdT
    rw [hc, if_neg (by decide), hp]
theorem j_chain {r : List Bool} (h : r.length ≤ 21) : Jd (chainV r) := by
  have hl := chain_len r
  by_cases hb : r.length < 20
  · exact j_of (n := r.length + 1) (by omega) (chain_ok r) (by omega)
  · refine j_no (n := r.length + 1) (N := 0) (by omega) (okR_okV (chain_ok r)) (by omega) (by rw [chain_isT]; exact decide_eq_false hb) fun t s a hs _ => chain_no 20 r a s (by omega) hs
end K80

namespace K80
open PySem PySem.Spec PyProof.Rows L2 Fx
abbrev St := L2.St
def topS (i : Nat) : Stmt := PySem.Challenge.pw_chiptrue_k80_whole_values_as_texts.main.body.getD i (.Pass ⟨0, 0, 0, 0⟩)
structure GK (K : PySem.W.Frag) (mg : Str → Option Value) : Prop where
  b_abs : mg "abs" = none
  b_all : mg "all" = none
  b_bool : mg "bool" = none
  b_int : mg "int" = none
  b_isinstance : mg "isinstance" = none
  b_len : mg "len" = none
  b_list : mg "list" = none
  b_range : mg "range" = none
  b_str : mg "str" = none
  b_tuple : mg "tuple" = none
  f_is_shown_at : IsFn K mg "is_shown_at" (topS 9) ["value", "deep"]
  f_is_shown : IsFn K mg "is_shown" (topS 8) ["value"]
  f_quoted : IsFn K mg "quoted" (topS 11) ["text"]
  f_show : IsFn K mg "show" (topS 10) ["value"]
  f_skipped : IsFn K mg "skipped" (topS 13) ["text", "at"]
  f_quote_at : IsFn K mg "quote_at" (topS 16) ["text", "at"]
  f_integer_at : IsFn K mg "integer_at" (topS 17) ["text", "at"]
  f_tuple_at : IsFn K mg "tuple_at" (topS 15) ["text", "at", "deep"]
  f_value_at : IsFn K mg "value_at" (topS 14) ["text", "at", "deep"]
  f_read_shown : IsFn K mg "read_shown" (topS 12) ["text"]
  f__law_next : IsFn K mg "_law_next" (topS 19) ["tape", "many"]
  f__law_same : IsFn K mg "_law_same" (topS 20) ["told", "due"]
  f__law_draw : IsFn K mg "_law_draw" (topS 21) ["tape", "deep"]
  f__law_quoted : IsFn K mg "_law_quoted" (topS 22) ["text"]
  f__law_show : IsFn K mg "_law_show" (topS 23) ["value", "gap"]
  f__law_skip : IsFn K mg "_law_skip" (topS 24) ["text", "at"]
  f__law_read : IsFn K mg "_law_read" (topS 25) ["text", "at", "deep"]
  f__law_whole : IsFn K mg "_law_whole" (topS 26) ["text"]
  f__law_asked : IsFn K mg "_law_asked" (topS 27) ["text"]
  f_law : IsFn K mg "law" (topS 28) ["script"]
  c_LARGEST : ∃ t, mg "LARGEST" = some (.int 10000000000000000000000000000000000000000 t)
  c_MOST_DIGITS : ∃ t, mg "MOST_DIGITS" = some (.int 40 t)
  c_MOST_NESTED : ∃ t, mg "MOST_NESTED" = some (.int 20 t)
abbrev i_ChiptrueError : Stmt := clsInit (topS 1)
abbrev i_InvalidText : Stmt := clsInit (topS 2)
section
variable {P : Program} {w : World} {K : PySem.W.Frag} {mg : Str → Option Value} {base : Heap} {C fI : Addr} {fd : FuncData}
theorem init0 (T : ExcAt P K mg "ChiptrueError" "ChiptrueError.__init__" i_ChiptrueError C fI fd) : FnOk P w K mg base (L2.CX P w) 1 fI fd ["self", "place"] (spIB K C "ChiptrueError") := by
  obtain ⟨cc, cdv, F⟩ := T.i
  exact ini_okB (n0 := "ChiptrueError") F rfl (fun L => rfl) (fun L => rfl) (fun A outer s H E => pss_cons (ps_ost (pe_var (i := 0) rfl (.inl F.scp.2.2.2.2.2.1)) (pe_var (i := 1) rfl (.inl F.scp.2.2.2.2.2.2))) (pss_cons (ps_ost (pe_var (i := 0) rfl (.inl F.scp.2.2.2.2.2.1)) pe_str) pss_nil))
theorem bind0 (T : ExcAt P K mg "ChiptrueError" "ChiptrueError.__init__" i_ChiptrueError C fI fd) : Binds K fd ["self", "place"] [] := by
  obtain ⟨cc, cdv, F⟩ := T.i
  obtain ⟨oc, od, kV, doc, pm, an, ct, osl, rfl, _, _⟩ := F.ex
  exact .all fun us hl => match us, hl with | [_, _], _ => rfl
theorem init1 {C0 f0 : Addr} {fd0 : FuncData} (T0 : ExcAt P K mg "ChiptrueError" "ChiptrueError.__init__" i_ChiptrueError C0 f0 fd0) (T : ExcAt P K mg "InvalidText" "InvalidText.__init__" i_InvalidText C fI fd) :
    FnOk P w K mg base (L2.CX P w) 2 fI fd ["self", "place"] (spID K C C0 f0 "ChiptrueError" "InvalidText") := by
  obtain ⟨cc, cdv, F⟩ := T.i
  exact ini_okD (n1 := "InvalidText") F rfl (fun L => rfl) (fun L => rfl) (init0 T0) (bind0 T0) (fun A outer s H E => pss_cons (ps_ost (pe_var (i := 0) rfl (.inl F.scp.2.2.2.2.2.1)) pe_str) pss_nil)
theorem bind1 (T : ExcAt P K mg "InvalidText" "InvalidText.__init__" i_InvalidText C fI fd) : Binds K fd ["self", "place"] [] := by
  obtain ⟨cc, cdv, F⟩ := T.i
  obtain ⟨oc, od, kV, doc, pm, an, ct, osl, rfl, _, _⟩ := F.ex
  exact .all fun us hl => match us, hl with | [_, _], _ => rfl
/-- the classes of the text, its table -/
structure XK (P : Program) (w : World) (K : PySem.W.Frag) (mg : Str → Option Value) : Prop where
  ex : ∃ C0 f0 fd0 C1 f1 fd1, ExcAt P K mg "ChiptrueError" "ChiptrueError.__init__" i_ChiptrueError C0 f0 fd0 ∧ ExcAt P K mg "InvalidText" "InvalidText.__init__" i_InvalidText C1 f1 fd1 ∧
    PySem.W.mroIn K C0 (.ref C0) = some true ∧ PySem.W.ks_superIn K C0 C0 "__init__" = some (some (.builtin "ValueError.__init__")) ∧
    PySem.W.mroIn K C1 (.ref C1) = some true ∧ PySem.W.ks_superIn K C1 C1 "__init__" = some (some (.ref f0)) ∧ PySem.W.mroIn K C1 (.ref C0) = some true ∧ PySem.W.ks_superIn K C1 C0 "__init__" = some (some (.builtin "ValueError.__init__")) ∧
    PySem.W.exmOne K (.ref C1) (.ref C0) = some true ∧ PySem.W.exmOne K (.ref C1) (.ref C1) = some true
  t_SHORT : KTab K w mg "SHORT" t_SHORT
theorem x_InvalidText (Z : XK P w K mg) : ExcCls P w K mg base 2 "InvalidText" ns_InvalidText := by
  obtain ⟨C0, f0, fd0, C1, f1, fd1, T0, T1, a1, a2, a3, a4, a5, a6, _⟩ := Z.ex
  exact ExcCls.der T1.m T1.iC T1.tI (init1 T0 T1) (bind1 T1) ⟨a3, a4, T0.tI, T0.fI, T0.thi⟩ ⟨a5, a6, T1.ve, T1.thi, T1.o⟩ T1.hp T1.hn
theorem k_InvalidText (Z : XK P w K mg) : Catches K mg tabX "InvalidText" := by
  obtain ⟨C0, f0, fd0, C1, f1, fd1, T0, T1, a1, a2, a3, a4, a5, a6, e1, e2⟩ := Z.ex
  refine ⟨_, T1.m, fun y b h C hC => ?_⟩
  unfold tabX at h
  split at h
  · rename_i hy
    subst hy
    rw [T1.m] at hC
    cases hC
    rw [if_pos rfl] at h
    cases h
    exact e2
  · cases h
theorem k_ChiptrueError (Z : XK P w K mg) : Catches K mg tabX "ChiptrueError" := by
  obtain ⟨C0, f0, fd0, C1, f1, fd1, T0, T1, a1, a2, a3, a4, a5, a6, e1, e2⟩ := Z.ex
  refine ⟨_, T0.m, fun y b h C hC => ?_⟩
  unfold tabX at h
  split at h
  · rename_i hy
    subst hy
    rw [T1.m] at hC
    cases hC
    rw [if_neg (by decide), if_pos rfl] at h
    cases h
    exact e1
  · cases h
theorem f_place (Z : XK P w K mg) : FieldsOk mg K clX "place" := by
  obtain ⟨C0, f0, fd0, C1, f1, fd1, T0, T1, _⟩ := Z.ex
  intro y hy C hC
  rw [List.mem_singleton] at hy
  subst hy
  rw [T1.m] at hC
  cases hC
  exact ⟨T1.xf, T1.hp⟩
end
section
variable {P : Program} {w : World} {K : PySem.W.Frag} {mg : Str → Option Value} {base : Heap}
abbrev s_is_shown_at : Stmt := topS 9
abbrev N_is_shown_at : List Str := ["value", "deep", "one"]
theorem sc_is_shown_at : FnScope N_is_shown_at ["value", "deep"] (defScope s_is_shown_at) := ⟨rfl, rfl, rfl, by decide +kernel, rfl, by decide +kernel, by decide +kernel⟩
@[irreducible] noncomputable def b_is_shown_at (r_is_shown_at : List D → List Cell → Res D) : MS := (mSeq (mIf (mTru (mIsi "tuple" (mVar 0)))
  (mRet (mAndV (mBin oLt (mVar 1) (mC (.int 20))) (mF oAllF (mLc (mSeqI (mVar 0)) [2] (gN 2) mYes (mCall r_is_shown_at (mCons (mVar 2) (mCons (mBin oAdd (mVar 1) (mC (.int 1))) mNil)))))))
  mNext)
  (mSeq (mIf (mTru (mIsi "int" (mVar 0)))
  (mRet (mChain oLtB oLtB (mNeg (mC (.int 10000000000000000000000000000000000000000))) (mVar 0) (mC (.int 10000000000000000000000000000000000000000))))
  mNext)
  (mRet (mOrV (mBin oIsN (mVar 0) (mC .non)) (mIsi "str" (mVar 0))))))
theorem w_is_shown_at (G : GK K mg) {k : Nat} (hk : 0 ≤ k) {r_is_shown_at : List D → List Cell → Res D} (h_rec_is_shown_at : FnM P w K mg base k "is_shown_at" 2 r_is_shown_at) {m : List D → List Cell → Res D} (hm : ∀ ds S, ds.length = 2 → RefR S (m ds S) (b_is_shown_at r_is_shown_at (startD 3 ds) S)) : FnM P w K mg base (k + 1) "is_shown_at" 2 m := by
  refine FnM.def (ps := ["value", "deep"]) G.f_is_shown_at sc_is_shown_at (fun f cdv A outer s H E tk hp hr => ?_) hm
  unfold b_is_shown_at
  exact (sb_cons (ss_if (st_tru (se_isi G.b_isinstance G.b_tuple (se_var 0)))
  (sb_one (ss_ret (se_and (se_cmp od_lt (se_var 1) (se_globI G.c_MOST_NESTED)) (se_one (se_callFB (cf_all rfl) G.b_all (sl_lc [(("one" : Str), 2)] rfl sc_is_shown_at.nd (si_seq (se_var 0)) (blkOk_by (N := N_is_shown_at) (sc := defScope s_is_shown_at) (by decide +kernel)) (fun _ _ _ _ _ => (sgw_name 2 sc_is_shown_at.nd)) (fun _ _ _ _ _ => sts_nil) (fun _ _ _ _ _ => (se_fn h_rec_is_shown_at (hr.mono (by omega)) takes0 (sa_cons (se_var 2) (sa_cons (se_bin od_add (se_var 1) se_int) sa_nil)) (len_cons (len_cons len_nil))))))))))
  sb_nil)
  (sb_cons (ss_if (st_tru (se_isi G.b_isinstance G.b_int (se_var 0)))
  (sb_one (ss_ret (se_chain od_ltB od_ltB (se_neg (se_globI G.c_LARGEST)) (se_var 0) (se_globI G.c_LARGEST))))
  sb_nil)
  (sb_one (ss_ret (se_or (se_cmp od_isN (se_var 0) se_non) (se_one (se_isi G.b_isinstance G.b_str (se_var 0))))))))
abbrev s_is_shown : Stmt := topS 8
abbrev N_is_shown : List Str := ["value"]
theorem sc_is_shown : FnScope N_is_shown ["value"] (defScope s_is_shown) := ⟨rfl, rfl, rfl, by decide +kernel, rfl, by decide +kernel, by decide +kernel⟩
@[irreducible] noncomputable def b_is_shown : MS := (mRet (mCall (m_is_shown_at 20) (mCons (mVar 0) (mCons (mC (.int 0)) mNil))))
theorem w_is_shown (G : GK K mg) (h_is_shown_at : FnM P w K mg base 22 "is_shown_at" 2 (m_is_shown_at 20)) {m : List D → List Cell → Res D} (hm : ∀ ds S, ds.length = 1 → RefR S (m ds S) (b_is_shown (startD 1 ds) S)) : FnM P w K mg base (22 + 1) "is_shown" 1 m := by
  refine FnM.def (ps := ["value"]) G.f_is_shown sc_is_shown (fun f cdv A outer s H E tk hp hr => ?_) hm
  unfold b_is_shown
  exact (sb_one (ss_ret (se_fn h_is_shown_at (hr.mono (by omega)) tk (sa_cons (se_var 0) (sa_cons se_int sa_nil)) (len_cons (len_cons len_nil)))))
abbrev s_quoted : Stmt := topS 11
abbrev N_quoted : List Str := ["text", "found", "sign"]
theorem sc_quoted : FnScope N_quoted ["text"] (defScope s_quoted) := ⟨rfl, rfl, rfl, by decide +kernel, rfl, by decide +kernel, by decide +kernel⟩
@[irreducible] noncomputable def b_quoted : MS := (mSeq (mSet 1 (mC (.str (cs ""))))
  (mSeq (mFor (mSeqI (mVar 0)) (gN 2)
  (mAug 1 oAddS (mGet2 (mDict [((mC (.str (cs "\n"))), (mC (.str (cs "\\n")))), ((mC (.str (cs "\t"))), (mC (.str (cs "\\t")))), ((mC (.str (cs "\\"))), (mC (.str (cs "\\\\")))), ((mC (.str (cs "'"))), (mC (.str (cs "\\'"))))]) (mVar 2) (mVar 2))))
  (mRet (mBin oAdd (mBin oAdd (mC (.str (cs "'"))) (mVar 1)) (mC (.str (cs "'")))))))
theorem w_quoted (G : GK K mg) {m : List D → List Cell → Res D} (hm : ∀ ds S, ds.length = 1 → RefR S (m ds S) (b_quoted (startD 3 ds) S)) : FnM P w K mg base (0 + 1) "quoted" 1 m := by
  refine FnM.def (ps := ["text"]) G.f_quoted sc_quoted (fun f cdv A outer s H E tk hp hr => ?_) hm
  unfold b_quoted
  exact (sb_cons (ss_set 1 sc_quoted.nd se_str)
  (sb_cons (ss_for hp rfl (si_seq (se_var 0)) (sg_name 2 sc_quoted.nd)
  (sb_one (ss_aug 1 od_iaddS sc_quoted.nd (se_get2 hr.units (se_dict (.cons se_str se_str (.cons se_str se_str (.cons se_str se_str (.cons se_str se_str .nil))))) (se_var 2) (se_var 2)))))
  (sb_one (ss_ret (se_bin od_add (se_bin od_add se_str (se_var 1)) se_str)))))
abbrev s_show : Stmt := topS 10
abbrev N_show : List Str := ["value", "one"]
theorem sc_show : FnScope N_show ["value"] (defScope s_show) := ⟨rfl, rfl, rfl, by decide +kernel, rfl, by decide +kernel, by decide +kernel⟩
@[irreducible] noncomputable def b_show (r_show : List D → List Cell → Res D) : MS := (mSeq (mIf (mTru (mIsi "tuple" (mVar 0)))
  (mRet (mBin oAdd (mBin oAdd (mC (.str (cs "("))) (mJoin (mC (.str (cs " "))) (mFresh (mLc (mSeqI (mVar 0)) [1] (gN 1) mYes (mCall r_show (mCons (mVar 1) mNil)))))) (mC (.str (cs ")")))))
  mNext)
  (mSeq (mIf (mTru (mIsi "str" (mVar 0)))
  (mRet (mCall m_quoted (mCons (mVar 0) mNil)))
  mNext)
  (mSeq (mIf (mTst (mBin oIsN (mVar 0) (mC .non)))
  (mRet (mC (.str (cs "none"))))
  mNext)
  (mSeq (mIf (mTru (mIsi "bool" (mVar 0)))
  (mRet (mIfE (mTru (mVar 0)) (mC (.str (cs "true"))) (mC (.str (cs "false")))))
  mNext)
  (mRet (mB oStrC (mCons (mVar 0) mNil)))))))
theorem w_show (G : GK K mg) (h_quoted : FnM P w K mg base 1 "quoted" 1 m_quoted) {k : Nat} (hk : 1 ≤ k) {r_show : List D → List Cell → Res D} (h_rec_show : FnM P w K mg base k "show" 1 r_show) {m : List D → List Cell → Res D} (hm : ∀ ds S, ds.length = 1 → RefR S (m ds S) (b_show r_show (startD 2 ds) S)) : FnM P w K mg base (k + 1) "show" 1 m := by
  refine FnM.def (ps := ["value"]) G.f_show sc_show (fun f cdv A outer s H E tk hp hr => ?_) hm
  unfold b_show
  exact (sb_cons (ss_if (st_tru (se_isi G.b_isinstance G.b_tuple (se_var 0)))
  (sb_one (ss_ret (se_bin od_add (se_bin od_add se_str (se_join se_str (se_fresh (sl_lc [(("one" : Str), 1)] rfl sc_show.nd (si_seq (se_var 0)) (blkOk_by (N := N_show) (sc := defScope s_show) (by decide +kernel)) (fun _ _ _ _ _ => (sgw_name 1 sc_show.nd)) (fun _ _ _ _ _ => sts_nil) (fun _ _ _ _ _ => (se_fn h_rec_show (hr.mono (by omega)) takes0 (sa_cons (se_var 1) sa_nil) (len_cons len_nil))))))) se_str)))
  sb_nil)
  (sb_cons (ss_if (st_tru (se_isi G.b_isinstance G.b_str (se_var 0)))
  (sb_one (ss_ret (se_fn h_quoted (hr.mono (by omega)) tk (sa_cons (se_var 0) sa_nil) (len_cons len_nil))))
  sb_nil)
  (sb_cons (ss_if (st_cmp od_isN (se_var 0) se_non)
  (sb_one (ss_ret se_str))
  sb_nil)
  (sb_cons (ss_if (st_tru (se_isi G.b_isinstance G.b_bool (se_var 0)))
  (sb_one (ss_ret (se_ife (st_tru (se_var 0)) se_str se_str)))
  sb_nil)
  (sb_one (ss_ret (se_callTy cd_str G.b_str (sa_cons (se_var 0) sa_nil))))))))
abbrev s_skipped : Stmt := topS 13
abbrev N_skipped : List Str := ["text", "at"]
theorem sc_skipped : FnScope N_skipped ["text", "at"] (defScope s_skipped) := ⟨rfl, rfl, rfl, by decide +kernel, rfl, by decide +kernel, by decide +kernel⟩
@[irreducible] noncomputable def b_skipped : MS := (mSeq (mWhile whN (mAnd (mTst (mBin oLt (mVar 1) (mB oLenA (mCons (mVar 0) mNil)))) (mTst (mBin oInA (mBin oIxA (mVar 0) (mVar 1)) (mC (.str (cs " \n"))))))
  (mAug 1 oAddS (mC (.int 1))))
  (mRet (mVar 1)))
theorem w_skipped (G : GK K mg) {m : List D → List Cell → Res D} (hm : ∀ ds S, ds.length = 2 → RefR S (m ds S) (b_skipped (startD 2 ds) S)) : FnM P w K mg base (0 + 1) "skipped" 2 m := by
  refine FnM.def (ps := ["text", "at"]) G.f_skipped sc_skipped (fun f cdv A outer s H E tk hp hr => ?_) hm
  unfold b_skipped
  exact (sb_cons (ss_while whN hp (st_sw (sw_and (st_cmp od_lt (se_var 1) (se_callB cd_lenA G.b_len (sa_cons (se_var 0) sa_nil))) (sw_and1 (st_cmp (od_inA hr.units) (se_ixA hr.units (se_var 0) (se_var 1)) se_str))))
  (sb_one (ss_aug 1 od_iaddS sc_skipped.nd se_int)))
  (sb_one (ss_ret (se_var 1))))
abbrev s_quote_at : Stmt := topS 16
abbrev N_quote_at : List Str := ["text", "at", "found", "sign"]
theorem sc_quote_at : FnScope N_quote_at ["text", "at"] (defScope s_quote_at) := ⟨rfl, rfl, rfl, by decide +kernel, rfl, by decide +kernel, by decide +kernel⟩
@[irreducible] noncomputable def b_quote_at : MS := (mSeq (mSet 2 (mC (.str (cs ""))))
  (mSeq (mWhile whN (mTst (mBin oNe (mSlice (mVar 0) (mPart (mVar 1)) (mPart (mBin oAdd (mVar 1) (mC (.int 1))))) (mC (.str (cs "'")))))
  (mSeq (mSet 3 (mSlice (mVar 0) (mPart (mVar 1)) (mPart (mBin oAdd (mVar 1) (mC (.int 1))))))
    (mSeq (mIf (mTst (mBin oEq (mVar 3) (mC (.str (cs "")))))
    (mRaise "InvalidText" ns_InvalidText (mVar 1))
    mNext)
    (mSeq (mIf (mTst (mBin oEq (mVar 3) (mC (.str (cs "\\")))))
    (mSeq (mSet 3 (mKget t_SHORT (mSlice (mVar 0) (mPart (mBin oAdd (mVar 1) (mC (.int 1)))) (mPart (mBin oAdd (mVar 1) (mC (.int 2))))) (mC (.str (cs "")))))
      (mSeq (mIf (mTst (mBin oEq (mVar 3) (mC (.str (cs "")))))
      (mRaise "InvalidText" ns_InvalidText (mVar 1))
      mNext)
      (mAug 1 oAddS (mC (.int 1)))))
    mNext)
    (mSeq (mAug 2 oAddS (mVar 3))
    (mAug 1 oAddS (mC (.int 1))))))))
  (mRet (mTup (mCons (mVar 2) (mCons (mCall m_skipped (mCons (mVar 0) (mCons (mBin oAdd (mVar 1) (mC (.int 1))) mNil))) mNil))))))
theorem w_quote_at (G : GK K mg) (Z : XK P w K mg) (h_skipped : FnM P w K mg base 1 "skipped" 2 m_skipped) {m : List D → List Cell → Res D} (hm : ∀ ds S, ds.length = 2 → RefR S (m ds S) (b_quote_at (startD 4 ds) S)) : FnM P w K mg base (3 + 1) "quote_at" 2 m := by
  refine FnM.def (ps := ["text", "at"]) G.f_quote_at sc_quote_at (fun f cdv A outer s H E tk hp hr => ?_) hm
  unfold b_quote_at
  exact (sb_cons (ss_set 2 sc_quote_at.nd se_str)
  (sb_cons (ss_while whN hp (st_cmp (od_ne hr.units) (se_slice (se_var 0) (so_some (se_var 1)) (so_some (se_bin od_add (se_var 1) se_int))) se_str)
  (sb_cons (ss_set 3 sc_quote_at.nd (se_slice (se_var 0) (so_some (se_var 1)) (so_some (se_bin od_add (se_var 1) se_int))))
    (sb_cons (ss_if (st_cmp (od_eq hr.units) (se_var 3) se_str)
    (sb_one (ss_raise (x := "InvalidText") rfl tk (x_InvalidText Z) (hr.mono (by omega)) (se_var 1) rfl rfl))
    sb_nil)
    (sb_cons (ss_if (st_cmp (od_eq hr.units) (se_var 3) se_str)
    (sb_cons (ss_set 3 sc_quote_at.nd (se_kget Z.t_SHORT (se_slice (se_var 0) (so_some (se_bin od_add (se_var 1) se_int)) (so_some (se_bin od_add (se_var 1) se_int))) se_str))
      (sb_cons (ss_if (st_cmp (od_eq hr.units) (se_var 3) se_str)
      (sb_one (ss_raise (x := "InvalidText") rfl tk (x_InvalidText Z) (hr.mono (by omega)) (se_var 1) rfl rfl))
      sb_nil)
      (sb_one (ss_aug 1 od_iaddS sc_quote_at.nd se_int))))
    sb_nil)
    (sb_cons (ss_aug 2 od_iaddS sc_quote_at.nd (se_var 3))
    (sb_one (ss_aug 1 od_iaddS sc_quote_at.nd se_int)))))))
  (sb_one (ss_ret (se_tup (sa_cons (se_var 2) (sa_cons (se_fn h_skipped (hr.mono (by omega)) tk (sa_cons (se_var 0) (sa_cons (se_bin od_add (se_var 1) se_int) sa_nil)) (len_cons (len_cons len_nil))) sa_nil)))))))
abbrev s_integer_at : Stmt := topS 17
abbrev N_integer_at : List Str := ["text", "at", "end", "start"]
theorem sc_integer_at : FnScope N_integer_at ["text", "at"] (defScope s_integer_at) := ⟨rfl, rfl, rfl, by decide +kernel, rfl, by decide +kernel, by decide +kernel⟩
@[irreducible] noncomputable def b_integer_at : MS := (mSeq (mSet 2 (mBin oAdd (mVar 1) (mB oIntS (mCons (mBin oEq (mBin oIxA (mVar 0) (mVar 1)) (mC (.str (cs "-")))) mNil))))
  (mSeq (mSet 3 (mVar 2))
  (mSeq (mWhile whN (mTst (mChain oLe oLe (mC (.str (cs "0"))) (mSlice (mVar 0) (mPart (mVar 2)) (mPart (mBin oAdd (mVar 2) (mC (.int 1))))) (mC (.str (cs "9")))))
  (mAug 2 oAddS (mC (.int 1))))
  (mSeq (mIf (mTst (mBin oEq (mVar 2) (mVar 3)))
  (mRaise "InvalidText" ns_InvalidText (mVar 2))
  mNext)
  (mSeq (mIf (mTst (mBin oGt (mVar 2) (mBin oAdd (mVar 3) (mC (.int 40)))))
  (mRaise "InvalidText" ns_InvalidText (mVar 1))
  mNext)
  (mRet (mTup (mCons (mB oIntS (mCons (mSlice (mVar 0) (mPart (mVar 1)) (mPart (mVar 2))) mNil)) (mCons (mCall m_skipped (mCons (mVar 0) (mCons (mVar 2) mNil))) mNil)))))))))
theorem w_integer_at (G : GK K mg) (Z : XK P w K mg) (h_skipped : FnM P w K mg base 1 "skipped" 2 m_skipped) {m : List D → List Cell → Res D} (hm : ∀ ds S, ds.length = 2 → RefR S (m ds S) (b_integer_at (startD 4 ds) S)) : FnM P w K mg base (3 + 1) "integer_at" 2 m := by
  refine FnM.def (ps := ["text", "at"]) G.f_integer_at sc_integer_at (fun f cdv A outer s H E tk hp hr => ?_) hm
  unfold b_integer_at
  exact (sb_cons (ss_set 2 sc_integer_at.nd (se_bin od_add (se_var 1) (se_callTy cd_intS G.b_int (sa_cons (se_cmp (od_eq hr.units) (se_ixA hr.units (se_var 0) (se_var 1)) se_str) sa_nil))))
  (sb_cons (ss_set 3 sc_integer_at.nd (se_var 2))
  (sb_cons (ss_while whN hp (st_chain od_le od_le se_str (se_slice (se_var 0) (so_some (se_var 2)) (so_some (se_bin od_add (se_var 2) se_int))) se_str)
  (sb_one (ss_aug 2 od_iaddS sc_integer_at.nd se_int)))
  (sb_cons (ss_if (st_cmp (od_eq hr.units) (se_var 2) (se_var 3))
  (sb_one (ss_raise (x := "InvalidText") rfl tk (x_InvalidText Z) (hr.mono (by omega)) (se_var 2) rfl rfl))
  sb_nil)
  (sb_cons (ss_if (st_cmp od_gt (se_var 2) (se_bin od_add (se_var 3) (se_globI G.c_MOST_DIGITS)))
  (sb_one (ss_raise (x := "InvalidText") rfl tk (x_InvalidText Z) (hr.mono (by omega)) (se_var 1) rfl rfl))
  sb_nil)
  (sb_one (ss_ret (se_tup (sa_cons (se_callTy cd_intS G.b_int (sa_cons (se_slice (se_var 0) (so_some (se_var 1)) (so_some (se_var 2))) sa_nil)) (sa_cons (se_fn h_skipped (hr.mono (by omega)) tk (sa_cons (se_var 0) (sa_cons (se_var 2) sa_nil)) (len_cons (len_cons len_nil))) sa_nil))))))))))
abbrev s_tuple_at : Stmt := topS 15
abbrev N_tuple_at : List Str := ["text", "at", "deep", "found", "value"]
theorem sc_tuple_at : FnScope N_tuple_at ["text", "at", "deep"] (defScope s_tuple_at) := ⟨rfl, rfl, rfl, by decide +kernel, rfl, by decide +kernel, by decide +kernel⟩
@[irreducible] noncomputable def b_tuple_at (r_value_at : List D → List Cell → Res D) : MS := (mSeq (mIf (mTst (mBin oEq (mVar 2) (mC (.int 20))))
  (mRaise "InvalidText" ns_InvalidText (mVar 1))
  mNext)
  (mSeq (mPar 3 1 (mCons (mLst mNil) (mCons (mCall m_skipped (mCons (mVar 0) (mCons (mBin oAdd (mVar 1) (mC (.int 1))) mNil))) mNil)))
  (mSeq (mWhile whN (mTst (mBin oNe (mSlice (mVar 0) (mPart (mVar 1)) (mPart (mBin oAdd (mVar 1) (mC (.int 1))))) (mC (.str (cs ")")))))
  (mSeq (mAsg (gTupD 2 (gsCons (gN 4) (gsCons (gN 1) gsNil))) (mCall r_value_at (mCons (mVar 0) (mCons (mVar 1) (mCons (mBin oAdd (mVar 2) (mC (.int 1))) mNil)))))
    (mExpr (mAppend (mVar 3) (mVar 4)))))
  (mRet (mTup (mCons (mB oTupC (mCons (mVar 3) mNil)) (mCons (mCall m_skipped (mCons (mVar 0) (mCons (mBin oAdd (mVar 1) (mC (.int 1))) mNil))) mNil)))))))
theorem w_tuple_at (G : GK K mg) (Z : XK P w K mg) (h_skipped : FnM P w K mg base 1 "skipped" 2 m_skipped) {k : Nat} (hk : 3 ≤ k) {r_value_at : List D → List Cell → Res D} (h_rec_value_at : FnM P w K mg base k "value_at" 3 r_value_at) {m : List D → List Cell → Res D} (hm : ∀ ds S, ds.length = 3 → RefR S (m ds S) (b_tuple_at r_value_at (startD 5 ds) S)) : FnM P w K mg base (k + 1) "tuple_at" 3 m := by
  refine FnM.def (ps := ["text", "at", "deep"]) G.f_tuple_at sc_tuple_at (fun f cdv A outer s H E tk hp hr => ?_) hm
  unfold b_tuple_at
  exact (sb_cons (ss_if (st_cmp (od_eq hr.units) (se_var 2) (se_globI G.c_MOST_NESTED))
  (sb_one (ss_raise (x := "InvalidText") rfl tk (x_InvalidText Z) (hr.mono (by omega)) (se_var 1) rfl rfl))
  sb_nil)
  (sb_cons (ss_par 3 1 rfl sc_tuple_at.nd (sa_cons (se_lst sa_nil) (sa_cons (se_fn h_skipped (hr.mono (by omega)) tk (sa_cons (se_var 0) (sa_cons (se_bin od_add (se_var 1) se_int) sa_nil)) (len_cons (len_cons len_nil))) sa_nil)))
  (sb_cons (ss_while whN hp (st_cmp (od_ne hr.units) (se_slice (se_var 0) (so_some (se_var 1)) (so_some (se_bin od_add (se_var 1) se_int))) se_str)
  (sb_cons (ss_asg (se_fn h_rec_value_at (hr.mono (by omega)) tk (sa_cons (se_var 0) (sa_cons (se_var 1) (sa_cons (se_bin od_add (se_var 2) se_int) sa_nil))) (len_cons (len_cons (len_cons len_nil)))) (sg_tup rfl (sgs_cons (sg_name 4 sc_tuple_at.nd) (sgs_cons (sg_name 1 sc_tuple_at.nd) sgs_nil (gN_noex 1) gsNil_noex) (gN_noex 4) (gsCons_noex (gN_noex 1) gsNil_noex))))
    (sb_one (ss_expr (se_append (se_var 3) (se_var 4))))))
  (sb_one (ss_ret (se_tup (sa_cons (se_callTy cd_tuple G.b_tuple (sa_cons (se_var 3) sa_nil)) (sa_cons (se_fn h_skipped (hr.mono (by omega)) tk (sa_cons (se_var 0) (sa_cons (se_bin od_add (se_var 1) se_int) sa_nil)) (len_cons (len_cons len_nil))) sa_nil))))))))
abbrev s_value_at : Stmt := topS 14
abbrev N_value_at : List Str := ["text", "at", "deep", "sign", "end", "word", "value"]
theorem sc_value_at : FnScope N_value_at ["text", "at", "deep"] (defScope s_value_at) := ⟨rfl, rfl, rfl, by decide +kernel, rfl, by decide +kernel, by decide +kernel⟩
@[irreducible] noncomputable def b_value_at (r_tuple_at : List D → List Cell → Res D) : MS := (mSeq (mSet 3 (mSlice (mVar 0) (mPart (mVar 1)) (mPart (mBin oAdd (mVar 1) (mC (.int 1))))))
  (mSeq (mIf (mTst (mBin oEq (mVar 3) (mC (.str (cs "(")))))
  (mRet (mCall r_tuple_at (mCons (mVar 0) (mCons (mVar 1) (mCons (mVar 2) mNil)))))
  mNext)
  (mSeq (mIf (mTst (mBin oEq (mVar 3) (mC (.str (cs "'")))))
  (mRet (mCall m_quote_at (mCons (mVar 0) (mCons (mBin oAdd (mVar 1) (mC (.int 1))) mNil))))
  mNext)
  (mSeq (mIf (mOr (mTst (mBin oEq (mVar 3) (mC (.str (cs "-"))))) (mTst (mChain oLe oLe (mC (.str (cs "0"))) (mVar 3) (mC (.str (cs "9"))))))
  (mRet (mCall m_integer_at (mCons (mVar 0) (mCons (mVar 1) mNil))))
  mNext)
  (mSeq (mSet 4 (mVar 1))
  (mSeq (mWhile whN (mTst (mChain oLe oLe (mC (.str (cs "a"))) (mSlice (mVar 0) (mPart (mVar 4)) (mPart (mBin oAdd (mVar 4) (mC (.int 1))))) (mC (.str (cs "z")))))
  (mAug 4 oAddS (mC (.int 1))))
  (mSeq (mFor (mSeqI (mTup (mCons (mTup (mCons (mC (.str (cs "none"))) (mCons (mC .non) mNil))) (mCons (mTup (mCons (mC (.str (cs "true"))) (mCons (mC (.bl true)) mNil))) (mCons (mTup (mCons (mC (.str (cs "false"))) (mCons (mC (.bl false)) mNil))) mNil))))) (gTupD 2 (gsCons (gN 5) (gsCons (gN 6) gsNil)))
  (mIf (mTst (mBin oEq (mSlice (mVar 0) (mPart (mVar 1)) (mPart (mVar 4))) (mVar 5)))
    (mRet (mTup (mCons (mVar 6) (mCons (mCall m_skipped (mCons (mVar 0) (mCons (mVar 4) mNil))) mNil))))
    mNext))
  (mRaise "InvalidText" ns_InvalidText (mVar 1)))))))))
theorem w_value_at (G : GK K mg) (Z : XK P w K mg) (h_integer_at : FnM P w K mg base 4 "integer_at" 2 m_integer_at) (h_quote_at : FnM P w K mg base 4 "quote_at" 2 m_quote_at) (h_skipped : FnM P w K mg base 1 "skipped" 2 m_skipped) {k : Nat} (hk : 4 ≤ k) {r_tuple_at : List D → List Cell → Res D} (h_rec_tuple_at : FnM P w K mg base k "tuple_at" 3 r_tuple_at) {m : List D → List Cell → Res D} (hm : ∀ ds S, ds.length = 3 → RefR S (m ds S) (b_value_at r_tuple_at (startD 7 ds) S)) : FnM P w K mg base (k + 1) "value_at" 3 m := by
  refine FnM.def (ps := ["text", "at", "deep"]) G.f_value_at sc_value_at (fun f cdv A outer s H E tk hp hr => ?_) hm
  unfold b_value_at
  exact (sb_cons (ss_set 3 sc_value_at.nd (se_slice (se_var 0) (so_some (se_var 1)) (so_some (se_bin od_add (se_var 1) se_int))))
  (sb_cons (ss_if (st_cmp (od_eq hr.units) (se_var 3) se_str)
  (sb_one (ss_ret (se_fn h_rec_tuple_at (hr.mono (by omega)) tk (sa_cons (se_var 0) (sa_cons (se_var 1) (sa_cons (se_var 2) sa_nil))) (len_cons (len_cons (len_cons len_nil))))))
  sb_nil)
  (sb_cons (ss_if (st_cmp (od_eq hr.units) (se_var 3) se_str)
  (sb_one (ss_ret (se_fn h_quote_at (hr.mono (by omega)) tk (sa_cons (se_var 0) (sa_cons (se_bin od_add (se_var 1) se_int) sa_nil)) (len_cons (len_cons len_nil)))))
  sb_nil)
  (sb_cons (ss_if (st_sw (sw_or (st_cmp (od_eq hr.units) (se_var 3) se_str) (sw_or1 (st_chain od_le od_le se_str (se_var 3) se_str))))
  (sb_one (ss_ret (se_fn h_integer_at (hr.mono (by omega)) tk (sa_cons (se_var 0) (sa_cons (se_var 1) sa_nil)) (len_cons (len_cons len_nil)))))
  sb_nil)
  (sb_cons (ss_set 4 sc_value_at.nd (se_var 1))
  (sb_cons (ss_while whN hp (st_chain od_le od_le se_str (se_slice (se_var 0) (so_some (se_var 4)) (so_some (se_bin od_add (se_var 4) se_int))) se_str)
  (sb_one (ss_aug 4 od_iaddS sc_value_at.nd se_int)))
  (sb_cons (ss_for hp rfl (si_seq (se_tup (sa_cons (se_tup (sa_cons se_str (sa_cons se_non sa_nil))) (sa_cons (se_tup (sa_cons se_str (sa_cons se_bl sa_nil))) (sa_cons (se_tup (sa_cons se_str (sa_cons se_bl sa_nil))) sa_nil))))) (sg_tup rfl (sgs_cons (sg_name 5 sc_value_at.nd) (sgs_cons (sg_name 6 sc_value_at.nd) sgs_nil (gN_noex 6) gsNil_noex) (gN_noex 5) (gsCons_noex (gN_noex 6) gsNil_noex)))
  (sb_one (ss_if (st_cmp (od_eq hr.units) (se_slice (se_var 0) (so_some (se_var 1)) (so_some (se_var 4))) (se_var 5))
    (sb_one (ss_ret (se_tup (sa_cons (se_var 6) (sa_cons (se_fn h_skipped (hr.mono (by omega)) tk (sa_cons (se_var 0) (sa_cons (se_var 4) sa_nil)) (len_cons (len_cons len_nil))) sa_nil)))))
    sb_nil)))
  (sb_one (ss_raise (x := "InvalidText") rfl tk (x_InvalidText Z) (hr.mono (by omega)) (se_var 1) rfl rfl)))))))))
abbrev s_read_shown : Stmt := topS 12
abbrev N_read_shown : List Str := ["text", "value", "at"]
theorem sc_read_shown : FnScope N_read_shown ["text"] (defScope s_read_shown) := ⟨rfl, rfl, rfl, by decide +kernel, rfl, by decide +kernel, by decide +kernel⟩
@[irreducible] noncomputable def b_read_shown : MS := (mSeq (mAsg (gTupD 2 (gsCons (gN 1) (gsCons (gN 2) gsNil))) (mCall (m_value_at 21) (mCons (mVar 0) (mCons (mCall m_skipped (mCons (mVar 0) (mCons (mC (.int 0)) mNil))) (mCons (mC (.int 0)) mNil)))))
  (mSeq (mIf (mTst (mBin oLt (mVar 2) (mB oLenA (mCons (mVar 0) mNil))))
  (mRaise "InvalidText" ns_InvalidText (mVar 2))
  mNext)
  (mRet (mVar 1))))
theorem w_read_shown (G : GK K mg) (Z : XK P w K mg) (h_skipped : FnM P w K mg base 1 "skipped" 2 m_skipped) (h_value_at : FnM P w K mg base 47 "value_at" 3 (m_value_at 21)) {m : List D → List Cell → Res D} (hm : ∀ ds S, ds.length = 1 → RefR S (m ds S) (b_read_shown (startD 3 ds) S)) : FnM P w K mg base (47 + 1) "read_shown" 1 m := by
  refine FnM.def (ps := ["text"]) G.f_read_shown sc_read_shown (fun f cdv A outer s H E tk hp hr => ?_) hm
  unfold b_read_shown
  exact (sb_cons (ss_asg (se_fn h_value_at (hr.mono (by omega)) tk (sa_cons (se_var 0) (sa_cons (se_fn h_skipped (hr.mono (by omega)) tk (sa_cons (se_var 0) (sa_cons se_int sa_nil)) (len_cons (len_cons len_nil))) (sa_cons se_int sa_nil))) (len_cons (len_cons (len_cons len_nil)))) (sg_tup rfl (sgs_cons (sg_name 1 sc_read_shown.nd) (sgs_cons (sg_name 2 sc_read_shown.nd) sgs_nil (gN_noex 2) gsNil_noex) (gN_noex 1) (gsCons_noex (gN_noex 2) gsNil_noex))))
  (sb_cons (ss_if (st_cmp od_lt (se_var 2) (se_callB cd_lenA G.b_len (sa_cons (se_var 0) sa_nil)))
  (sb_one (ss_raise (x := "InvalidText") rfl tk (x_InvalidText Z) (hr.mono (by omega)) (se_var 2) rfl rfl))
  sb_nil)
  (sb_one (ss_ret (se_var 1)))))
abbrev s__law_next : Stmt := topS 19
abbrev N__law_next : List Str := ["tape", "many", "rest", "cell"]
theorem sc__law_next : FnScope N__law_next ["tape", "many"] (defScope s__law_next) := ⟨rfl, rfl, rfl, by decide +kernel, rfl, by decide +kernel, by decide +kernel⟩
@[irreducible] noncomputable def b__law_next : MS := (mSeq (mSet 2 (mBin oIxA (mVar 0) (mC (.int 2))))
  (mSeq (mIf (mTst (mBin oEq (mVar 2) (mC (.int 0))))
  (mSeq (mSet 3 (mC (.int 0)))
    (mSeq (mIf (mTst (mBin oLt (mBin oIxA (mVar 0) (mC (.int 1))) (mB oLenA (mCons (mBin oIxA (mVar 0) (mC (.int 0))) mNil))))
    (mSeq (mSet 3 (mB oAbs (mCons (mB oIntS (mCons (mBin oIxA (mBin oIxA (mVar 0) (mC (.int 0))) (mBin oIxA (mVar 0) (mC (.int 1)))) mNil)) mNil)))
      (mAsg (gSubA (mVar 0) (mC (.int 1))) (mBin oAdd (mBin oIxA (mVar 0) (mC (.int 1))) (mC (.int 1)))))
    mNext)
    (mSeq (mSet 2 (mVar 3))
    (mIf (mTst (mBin oLt (mVar 3) (mBin oPow (mC (.int 10)) (mC (.int 18)))))
    (mSeq (mAsg (gSubA (mVar 0) (mC (.int 3))) (mBin oMod (mB oIntS (mCons (mBin oAdd (mBin oAdd (mBin oMulL (mBin oIxA (mVar 0) (mC (.int 3))) (mC (.int 69621))) (mBin oMulL (mVar 3) (mC (.int 40692)))) (mC (.int 17))) mNil)) (mC (.int 2147483647))))
      (mRet (mBin oMod (mBin oMod (mB oIntS (mCons (mBin oMulL (mB oIntS (mCons (mBin oDiv (mBin oIxA (mVar 0) (mC (.int 3))) (mC (.int 5))) mNil)) (mC (.int 48271))) mNil)) (mC (.int 2147483647))) (mVar 1))))
    mNext))))
  mNext)
  (mSeq (mAsg (gSubA (mVar 0) (mC (.int 2))) (mBin oDiv (mVar 2) (mVar 1)))
  (mRet (mBin oMod (mB oIntS (mCons (mVar 2) mNil)) (mVar 1))))))
theorem w__law_next (G : GK K mg) {m : List D → List Cell → Res D} (hm : ∀ ds S, ds.length = 2 → RefR S (m ds S) (b__law_next (startD 4 ds) S)) : FnM P w K mg base (0 + 1) "_law_next" 2 m := by
  refine FnM.def (ps := ["tape", "many"]) G.f__law_next sc__law_next (fun f cdv A outer s H E tk hp hr => ?_) hm
  unfold b__law_next
  exact (sb_cons (ss_set 2 sc__law_next.nd (se_ixA hr.units (se_var 0) se_int))
  (sb_cons (ss_if (st_cmp (od_eq hr.units) (se_var 2) se_int)
  (sb_cons (ss_set 3 sc__law_next.nd se_int)
    (sb_cons (ss_if (st_cmp od_lt (se_ixA hr.units (se_var 0) se_int) (se_callB cd_lenA G.b_len (sa_cons (se_ixA hr.units (se_var 0) se_int) sa_nil)))
    (sb_cons (ss_set 3 sc__law_next.nd (se_callB cd_abs G.b_abs (sa_cons (se_callTy cd_intS G.b_int (sa_cons (se_ixA hr.units (se_ixA hr.units (se_var 0) se_int) (se_ixA hr.units (se_var 0) se_int)) sa_nil)) sa_nil)))
      (sb_one (ss_asg (se_bin od_add (se_ixA hr.units (se_var 0) se_int) se_int) (sg_subA hr.units (se_var 0) se_int))))
    sb_nil)
    (sb_cons (ss_set 2 sc__law_next.nd (se_var 3))
    (sb_one (ss_if (st_cmp od_lt (se_var 3) (se_bin od_pow se_int se_int))
    (sb_cons (ss_asg (se_bin od_mod (se_callTy cd_intS G.b_int (sa_cons (se_bin od_add (se_bin od_add (se_bin od_mulL (se_ixA hr.units (se_var 0) se_int) se_int) (se_bin od_mulL (se_var 3) se_int)) se_int) sa_nil)) se_int) (sg_subA hr.units (se_var 0) se_int))
      (sb_one (ss_ret (se_bin od_mod (se_bin od_mod (se_callTy cd_intS G.b_int (sa_cons (se_bin od_mulL (se_callTy cd_intS G.b_int (sa_cons (se_bin od_div (se_ixA hr.units (se_var 0) se_int) se_int) sa_nil)) se_int) sa_nil)) se_int) (se_var 1)))))
    sb_nil)))))
  sb_nil)
  (sb_cons (ss_asg (se_bin od_div (se_var 2) (se_var 1)) (sg_subA hr.units (se_var 0) se_int))
  (sb_one (ss_ret (se_bin od_mod (se_callTy cd_intS G.b_int (sa_cons (se_var 2) sa_nil)) (se_var 1)))))))
abbrev s__law_same : Stmt := topS 20
abbrev N__law_same : List Str := ["told", "due", "k"]
theorem sc__law_same : FnScope N__law_same ["told", "due"] (defScope s__law_same) := ⟨rfl, rfl, rfl, by decide +kernel, rfl, by decide +kernel, by decide +kernel⟩
@[irreducible] noncomputable def b__law_same (r__law_same : List D → List Cell → Res D) : MS := (mSeq (mIf (mTst (mBin oIsN (mVar 1) (mC .non)))
  (mRet (mBin oIsN (mVar 0) (mC .non)))
  mNext)
  (mSeq (mIf (mTru (mIsi "bool" (mVar 1)))
  (mRet (mAndV (mIsi "bool" (mVar 0)) (mBin oEq (mVar 0) (mVar 1))))
  mNext)
  (mSeq (mIf (mTru (mIsi "int" (mVar 1)))
  (mRet (mAndV (mIsi "int" (mVar 0)) (mAndV (mNotV (mIsi "bool" (mVar 0))) (mBin oEq (mVar 0) (mVar 1)))))
  mNext)
  (mSeq (mIf (mTru (mIsi "str" (mVar 1)))
  (mRet (mAndV (mIsi "str" (mVar 0)) (mBin oEq (mVar 0) (mVar 1))))
  mNext)
  (mSeq (mIf (mOr (mAnd (mTru (mIsi "list" (mVar 1))) (mNot (mTru (mIsi "list" (mVar 0))))) (mAnd (mTru (mIsi "tuple" (mVar 1))) (mNot (mTru (mIsi "tuple" (mVar 0))))))
  (mRet (mC (.bl false)))
  mNext)
  (mRet (mAndV (mBin oEq (mB oLenA (mCons (mVar 0) mNil)) (mB oLenA (mCons (mVar 1) mNil))) (mBin oEq (mFresh (mLc (mRng1 (mCons (mB oLenA (mCons (mVar 1) mNil)) mNil)) [2] (gN 2) (mNot (mTru (mCall r__law_same (mCons (mBin oIxA (mVar 0) (mVar 2)) (mCons (mBin oIxA (mVar 1) (mVar 2)) mNil))))) (mC (.int 1)))) (mLst mNil)))))))))
theorem w__law_same (G : GK K mg) {k : Nat} (hk : 0 ≤ k) {r__law_same : List D → List Cell → Res D} (h_rec__law_same : FnM P w K mg base k "_law_same" 2 r__law_same) {m : List D → List Cell → Res D} (hm : ∀ ds S, ds.length = 2 → RefR S (m ds S) (b__law_same r__law_same (startD 3 ds) S)) : FnM P w K mg base (k + 1) "_law_same" 2 m := by
  refine FnM.def (ps := ["told", "due"]) G.f__law_same sc__law_same (fun f cdv A outer s H E tk hp hr => ?_) hm
  unfold b__law_same
  exact (sb_cons (ss_if (st_cmp od_isN (se_var 1) se_non)
  (sb_one (ss_ret (se_cmp od_isN (se_var 0) se_non)))
  sb_nil)
  (sb_cons (ss_if (st_tru (se_isi G.b_isinstance G.b_bool (se_var 1)))
  (sb_one (ss_ret (se_and (se_isi G.b_isinstance G.b_bool (se_var 0)) (se_one (se_cmp (od_eq hr.units) (se_var 0) (se_var 1))))))
  sb_nil)
  (sb_cons (ss_if (st_tru (se_isi G.b_isinstance G.b_int (se_var 1)))
  (sb_one (ss_ret (se_and (se_isi G.b_isinstance G.b_int (se_var 0)) (se_and (se_not (se_isi G.b_isinstance G.b_bool (se_var 0))) (se_one (se_cmp (od_eq hr.units) (se_var 0) (se_var 1)))))))
  sb_nil)
  (sb_cons (ss_if (st_tru (se_isi G.b_isinstance G.b_str (se_var 1)))
  (sb_one (ss_ret (se_and (se_isi G.b_isinstance G.b_str (se_var 0)) (se_one (se_cmp (od_eq hr.units) (se_var 0) (se_var 1))))))
  sb_nil)
  (sb_cons (ss_if (st_sw (sw_or (st_sw (sw_and (st_tru (se_isi G.b_isinstance G.b_list (se_var 1))) (sw_and1 (st_not (st_tru (se_isi G.b_isinstance G.b_list (se_var 0))))))) (sw_or1 (st_sw (sw_and (st_tru (se_isi G.b_isinstance G.b_tuple (se_var 1))) (sw_and1 (st_not (st_tru (se_isi G.b_isinstance G.b_tuple (se_var 0))))))))))
  (sb_one (ss_ret se_bl))
  sb_nil)
  (sb_one (ss_ret (se_and (se_cmp (od_eq hr.units) (se_callB cd_lenA G.b_len (sa_cons (se_var 0) sa_nil)) (se_callB cd_lenA G.b_len (sa_cons (se_var 1) sa_nil))) (se_one (se_cmp (od_eq hr.units) (se_fresh (sl_lc [(("k" : Str), 2)] rfl sc__law_same.nd (si_range1 G.b_range (sa_cons (se_callB cd_lenA G.b_len (sa_cons (se_var 1) sa_nil)) sa_nil)) (blkOk_by (N := N__law_same) (sc := defScope s__law_same) (by decide +kernel)) (fun _ _ _ _ _ => (sgw_name 2 sc__law_same.nd)) (fun _ _ _ _ _ => (sts_one (st_not (st_tru (se_fn h_rec__law_same (hr.mono (by omega)) takes0 (sa_cons (se_ixA hr.units (se_var 0) (se_var 2)) (sa_cons (se_ixA hr.units (se_var 1) (se_var 2)) sa_nil)) (len_cons (len_cons len_nil))))))) (fun _ _ _ _ _ => se_int))) (se_lst sa_nil)))))))))))
abbrev s__law_draw : Stmt := topS 21
abbrev N__law_draw : List Str := ["tape", "deep", "k"]
theorem sc__law_draw : FnScope N__law_draw ["tape", "deep"] (defScope s__law_draw) := ⟨rfl, rfl, rfl, by decide +kernel, rfl, by decide +kernel, by decide +kernel⟩
@[irreducible] noncomputable def b__law_draw (r__law_draw : List D → List Cell → Res D) : MS := (mSeq (mIf (mAnd (mTst (mBin oGt (mVar 1) (mC (.int 0)))) (mTst (mBin oEq (mCall m_next (mCons (mVar 0) (mCons (mC (.int 3)) mNil))) (mC (.int 0)))))
  (mRet (mF oTupF (mLc (mRng1 (mCons (mCall m_next (mCons (mVar 0) (mCons (mC (.int 4)) mNil))) mNil)) [2] (gN 2) mYes (mCall r__law_draw (mCons (mVar 0) (mCons (mBin oSub (mVar 1) (mC (.int 1))) mNil))))))
  mNext)
  (mRet (mBin oIxA (mTup (mCons (mBin oSub (mCall m_next (mCons (mVar 0) (mCons (mC (.int 2000)) mNil))) (mC (.int 1000))) (mCons (mC (.str (cs ""))) (mCons (mC (.str (cs "it's \\ ~\n"))) (mCons (mC (.str (cs "a\tb"))) (mCons (mC .non) (mCons (mC (.bl true)) (mCons (mC (.bl false)) (mCons (mC (.int 0)) mNil))))))))) (mCall m_next (mCons (mVar 0) (mCons (mC (.int 8)) mNil))))))
theorem w__law_draw (G : GK K mg) (h__law_next : FnM P w K mg base 1 "_law_next" 2 m_next) {k : Nat} (hk : 1 ≤ k) {r__law_draw : List D → List Cell → Res D} (h_rec__law_draw : FnM P w K mg base k "_law_draw" 2 r__law_draw) {m : List D → List Cell → Res D} (hm : ∀ ds S, ds.length = 2 → RefR S (m ds S) (b__law_draw r__law_draw (startD 3 ds) S)) : FnM P w K mg base (k + 1) "_law_draw" 2 m := by
  refine FnM.def (ps := ["tape", "deep"]) G.f__law_draw sc__law_draw (fun f cdv A outer s H E tk hp hr => ?_) hm
  unfold b__law_draw
  exact (sb_cons (ss_if (st_sw (sw_and (st_cmp od_gt (se_var 1) se_int) (sw_and1 (st_cmp (od_eq hr.units) (se_fn h__law_next (hr.mono (by omega)) tk (sa_cons (se_var 0) (sa_cons se_int sa_nil)) (len_cons (len_cons len_nil))) se_int))))
  (sb_one (ss_ret (se_callFT cf_tuple G.b_tuple (sl_lc [(("k" : Str), 2)] rfl sc__law_draw.nd (si_range1 G.b_range (sa_cons (se_fn h__law_next (hr.mono (by omega)) tk (sa_cons (se_var 0) (sa_cons se_int sa_nil)) (len_cons (len_cons len_nil))) sa_nil)) (blkOk_by (N := N__law_draw) (sc := defScope s__law_draw) (by decide +kernel)) (fun _ _ _ _ _ => (sgw_name 2 sc__law_draw.nd)) (fun _ _ _ _ _ => sts_nil) (fun _ _ _ _ _ => (se_fn h_rec__law_draw (hr.mono (by omega)) takes0 (sa_cons (se_var 0) (sa_cons (se_bin od_sub (se_var 1) se_int) sa_nil)) (len_cons (len_cons len_nil))))))))
  sb_nil)
  (sb_one (ss_ret (se_ixA hr.units (se_tup (sa_cons (se_bin od_sub (se_fn h__law_next (hr.mono (by omega)) tk (sa_cons (se_var 0) (sa_cons se_int sa_nil)) (len_cons (len_cons len_nil))) se_int) (sa_cons se_str (sa_cons se_str (sa_cons se_str (sa_cons se_non (sa_cons se_bl (sa_cons se_bl (sa_cons se_int sa_nil))))))))) (se_fn h__law_next (hr.mono (by omega)) tk (sa_cons (se_var 0) (sa_cons se_int sa_nil)) (len_cons (len_cons len_nil)))))))
abbrev s__law_quoted : Stmt := topS 22
abbrev N__law_quoted : List Str := ["text", "sign"]
theorem sc__law_quoted : FnScope N__law_quoted ["text"] (defScope s__law_quoted) := ⟨rfl, rfl, rfl, by decide +kernel, rfl, by decide +kernel, by decide +kernel⟩
@[irreducible] noncomputable def b__law_quoted : MS := (mRet (mBin oAdd (mBin oAdd (mC (.str (cs "'"))) (mJoin (mC (.str (cs ""))) (mFresh (mLc (mSeqI (mVar 0)) [1] (gN 1) mYes (mGet2 (mDict [((mC (.str (cs "\n"))), (mC (.str (cs "\\n")))), ((mC (.str (cs "\t"))), (mC (.str (cs "\\t")))), ((mC (.str (cs "\\"))), (mC (.str (cs "\\\\")))), ((mC (.str (cs "'"))), (mC (.str (cs "\\'"))))]) (mVar 1) (mVar 1)))))) (mC (.str (cs "'")))))
theorem w__law_quoted (G : GK K mg) {m : List D → List Cell → Res D} (hm : ∀ ds S, ds.length = 1 → RefR S (m ds S) (b__law_quoted (startD 2 ds) S)) : FnM P w K mg base (0 + 1) "_law_quoted" 1 m := by
  refine FnM.def (ps := ["text"]) G.f__law_quoted sc__law_quoted (fun f cdv A outer s H E tk hp hr => ?_) hm
  unfold b__law_quoted
  exact (sb_one (ss_ret (se_bin od_add (se_bin od_add se_str (se_join se_str (se_fresh (sl_lc [(("sign" : Str), 1)] rfl sc__law_quoted.nd (si_seq (se_var 0)) (blkOk_by (N := N__law_quoted) (sc := defScope s__law_quoted) (by decide +kernel)) (fun _ _ _ _ _ => (sgw_name 1 sc__law_quoted.nd)) (fun _ _ _ _ _ => sts_nil) (fun _ _ _ _ _ => (se_get2 hr.units (se_dict (.cons se_str se_str (.cons se_str se_str (.cons se_str se_str (.cons se_str se_str .nil))))) (se_var 1) (se_var 1))))))) se_str)))
abbrev s__law_show : Stmt := topS 23
abbrev N__law_show : List Str := ["value", "gap", "one"]
theorem sc__law_show : FnScope N__law_show ["value", "gap"] (defScope s__law_show) := ⟨rfl, rfl, rfl, by decide +kernel, rfl, by decide +kernel, by decide +kernel⟩
@[irreducible] noncomputable def b__law_show (r__law_show : List D → List Cell → Res D) : MS := (mSeq (mIf (mTru (mIsi "tuple" (mVar 0)))
  (mRet (mBin oAdd (mBin oAdd (mBin oAdd (mBin oAdd (mC (.str (cs "("))) (mSlice (mVar 1) (mPart (mC (.int 1))) mNoPart)) (mJoin (mVar 1) (mFresh (mLc (mSeqI (mVar 0)) [2] (gN 2) mYes (mCall r__law_show (mCons (mVar 2) (mCons (mVar 1) mNil))))))) (mSlice (mVar 1) (mPart (mC (.int 1))) mNoPart)) (mC (.str (cs ")")))))
  mNext)
  (mSeq (mIf (mTru (mIsi "str" (mVar 0)))
  (mRet (mCall m__law_quoted (mCons (mVar 0) mNil)))
  mNext)
  (mRet (mIfE (mTst (mBin oIsN (mVar 0) (mC .non))) (mC (.str (cs "none"))) (mIfE (mTru (mIsi "bool" (mVar 0))) (mBoolD (cs "true") (cs "false") (mVar 0)) (mB oStrC (mCons (mVar 0) mNil)))))))
theorem w__law_show (G : GK K mg) (h__law_quoted : FnM P w K mg base 1 "_law_quoted" 1 m__law_quoted) {k : Nat} (hk : 1 ≤ k) {r__law_show : List D → List Cell → Res D} (h_rec__law_show : FnM P w K mg base k "_law_show" 2 r__law_show) {m : List D → List Cell → Res D} (hm : ∀ ds S, ds.length = 2 → RefR S (m ds S) (b__law_show r__law_show (startD 3 ds) S)) : FnM P w K mg base (k + 1) "_law_show" 2 m := by
  refine FnM.def (ps := ["value", "gap"]) G.f__law_show sc__law_show (fun f cdv A outer s H E tk hp hr => ?_) hm
  unfold b__law_show
  exact (sb_cons (ss_if (st_tru (se_isi G.b_isinstance G.b_tuple (se_var 0)))
  (sb_one (ss_ret (se_bin od_add (se_bin od_add (se_bin od_add (se_bin od_add se_str (se_slice (se_var 1) (so_some se_int) so_none)) (se_join (se_var 1) (se_fresh (sl_lc [(("one" : Str), 2)] rfl sc__law_show.nd (si_seq (se_var 0)) (blkOk_by (N := N__law_show) (sc := defScope s__law_show) (by decide +kernel)) (fun _ _ _ _ _ => (sgw_name 2 sc__law_show.nd)) (fun _ _ _ _ _ => sts_nil) (fun _ _ _ _ _ => (se_fn h_rec__law_show (hr.mono (by omega)) takes0 (sa_cons (se_var 2) (sa_cons (se_var 1) sa_nil)) (len_cons (len_cons len_nil)))))))) (se_slice (se_var 1) (so_some se_int) so_none)) se_str)))
  sb_nil)
  (sb_cons (ss_if (st_tru (se_isi G.b_isinstance G.b_str (se_var 0)))
  (sb_one (ss_ret (se_fn h__law_quoted (hr.mono (by omega)) tk (sa_cons (se_var 0) sa_nil) (len_cons len_nil))))
  sb_nil)
  (sb_one (ss_ret (se_ife (st_cmp od_isN (se_var 0) se_non) se_str (se_ife (st_tru (se_isi G.b_isinstance G.b_bool (se_var 0))) (se_boolD (se_var 0)) (se_callTy cd_str G.b_str (sa_cons (se_var 0) sa_nil))))))))
abbrev s__law_skip : Stmt := topS 24
abbrev N__law_skip : List Str := ["text", "at"]
theorem sc__law_skip : FnScope N__law_skip ["text", "at"] (defScope s__law_skip) := ⟨rfl, rfl, rfl, by decide +kernel, rfl, by decide +kernel, by decide +kernel⟩
@[irreducible] noncomputable def b__law_skip : MS := (mSeq (mWhile whN (mAnd (mTst (mBin oNe (mSlice (mVar 0) (mPart (mVar 1)) (mPart (mBin oAdd (mVar 1) (mC (.int 1))))) (mC (.str (cs ""))))) (mTst (mBin oInA (mBin oIxA (mVar 0) (mVar 1)) (mC (.str (cs " \n"))))))
  (mSet 1 (mBin oAdd (mVar 1) (mC (.int 1)))))
  (mRet (mVar 1)))
theorem w__law_skip (G : GK K mg) {m : List D → List Cell → Res D} (hm : ∀ ds S, ds.length = 2 → RefR S (m ds S) (b__law_skip (startD 2 ds) S)) : FnM P w K mg base (0 + 1) "_law_skip" 2 m := by
  refine FnM.def (ps := ["text", "at"]) G.f__law_skip sc__law_skip (fun f cdv A outer s H E tk hp hr => ?_) hm
  unfold b__law_skip
  exact (sb_cons (ss_while whN hp (st_sw (sw_and (st_cmp (od_ne hr.units) (se_slice (se_var 0) (so_some (se_var 1)) (so_some (se_bin od_add (se_var 1) se_int))) se_str) (sw_and1 (st_cmp (od_inA hr.units) (se_ixA hr.units (se_var 0) (se_var 1)) se_str))))
  (sb_one (ss_set 1 sc__law_skip.nd (se_bin od_add (se_var 1) se_int))))
  (sb_one (ss_ret (se_var 1))))
abbrev s__law_read : Stmt := topS 25
abbrev N__law_read : List Str := ["text", "at", "deep", "sign", "found", "told", "pair", "end"]
theorem sc__law_read : FnScope N__law_read ["text", "at", "deep"] (defScope s__law_read) := ⟨rfl, rfl, rfl, by decide +kernel, rfl, by decide +kernel, by decide +kernel⟩
@[irreducible] noncomputable def b__law_read (r__law_read : List D → List Cell → Res D) : MS := (mSeq (mSet 3 (mSlice (mVar 0) (mPart (mVar 1)) (mPart (mBin oAdd (mVar 1) (mC (.int 1))))))
  (mSeq (mIf (mTst (mBin oEq (mVar 3) (mC (.str (cs "(")))))
  (mSeq (mIf (mTst (mBin oEq (mVar 2) (mC (.int 20))))
    (mRet (mTup (mCons (mC (.str (cs "no"))) (mCons (mVar 1) mNil))))
    mNext)
    (mSeq (mPar 4 1 (mCons (mTup mNil) (mCons (mCall m__law_skip (mCons (mVar 0) (mCons (mBin oAdd (mVar 1) (mC (.int 1))) mNil))) mNil)))
    (mSeq (mWhile whN (mTst (mBin oNe (mSlice (mVar 0) (mPart (mVar 1)) (mPart (mBin oAdd (mVar 1) (mC (.int 1))))) (mC (.str (cs ")")))))
    (mSeq (mSet 5 (mCall r__law_read (mCons (mVar 0) (mCons (mVar 1) (mCons (mBin oAdd (mVar 2) (mC (.int 1))) mNil)))))
      (mSeq (mIf (mTst (mBin oEq (mBin oIxA (mVar 5) (mC (.int 0))) (mC (.str (cs "no")))))
      (mRet (mVar 5))
      mNext)
      (mPar 4 1 (mCons (mBin oAdd (mVar 4) (mTup (mCons (mBin oIxA (mVar 5) (mC (.int 1))) mNil))) (mCons (mCall m__law_skip (mCons (mVar 0) (mCons (mBin oIxA (mVar 5) (mC (.int 2))) mNil))) mNil))))))
    (mRet (mTup (mCons (mC (.str (cs "yes"))) (mCons (mVar 4) (mCons (mCall m__law_skip (mCons (mVar 0) (mCons (mBin oAdd (mVar 1) (mC (.int 1))) mNil))) mNil))))))))
  mNext)
  (mSeq (mIf (mTst (mBin oEq (mVar 3) (mC (.str (cs "'")))))
  (mSeq (mPar 4 1 (mCons (mC (.str (cs ""))) (mCons (mBin oAdd (mVar 1) (mC (.int 1))) mNil)))
    (mSeq (mWhile whN (mTst (mBin oNe (mSlice (mVar 0) (mPart (mVar 1)) (mPart (mBin oAdd (mVar 1) (mC (.int 1))))) (mC (.str (cs "'")))))
    (mSeq (mIf (mTst (mBin oGe (mVar 1) (mB oLenA (mCons (mVar 0) mNil))))
      (mRet (mTup (mCons (mC (.str (cs "no"))) (mCons (mVar 1) mNil))))
      mNext)
      (mSeq (mSet 6 (mSlice (mVar 0) (mPart (mVar 1)) (mPart (mBin oAdd (mVar 1) (mC (.int 2))))))
      (mSeq (mIf (mAnd (mTst (mBin oEq (mBin oIxA (mVar 0) (mVar 1)) (mC (.str (cs "\\"))))) (mTst (mBin oNotInA (mVar 6) (mTup (mCons (mC (.str (cs "\\n"))) (mCons (mC (.str (cs "\\t"))) (mCons (mC (.str (cs "\\\\"))) (mCons (mC (.str (cs "\\'"))) mNil))))))))
      (mRet (mTup (mCons (mC (.str (cs "no"))) (mCons (mVar 1) mNil))))
      mNext)
      (mSeq (mSet 4 (mBin oAdd (mVar 4) (mIfE (mTst (mBin oEq (mBin oIxA (mVar 0) (mVar 1)) (mC (.str (cs "\\"))))) (mBin oIxA (mDict [((mC (.str (cs "\\n"))), (mC (.str (cs "\n")))), ((mC (.str (cs "\\t"))), (mC (.str (cs "\t")))), ((mC (.str (cs "\\\\"))), (mC (.str (cs "\\")))), ((mC (.str (cs "\\'"))), (mC (.str (cs "'"))))]) (mVar 6)) (mBin oIxA (mVar 0) (mVar 1)))))
      (mSet 1 (mBin oAdd (mVar 1) (mIfE (mTst (mBin oEq (mBin oIxA (mVar 0) (mVar 1)) (mC (.str (cs "\\"))))) (mC (.int 2)) (mC (.int 1))))))))))
    (mRet (mTup (mCons (mC (.str (cs "yes"))) (mCons (mVar 4) (mCons (mCall m__law_skip (mCons (mVar 0) (mCons (mBin oAdd (mVar 1) (mC (.int 1))) mNil))) mNil)))))))
  mNext)
  (mSeq (mSet 7 (mBin oAdd (mVar 1) (mB oIntS (mCons (mBin oEq (mVar 3) (mC (.str (cs "-")))) mNil))))
  (mSeq (mWhile whN (mAnd (mTst (mBin oNe (mSlice (mVar 0) (mPart (mVar 7)) (mPart (mBin oAdd (mVar 7) (mC (.int 1))))) (mC (.str (cs ""))))) (mTst (mBin oInA (mBin oIxA (mVar 0) (mVar 7)) (mC (.str (cs "0123456789"))))))
  (mSet 7 (mBin oAdd (mVar 7) (mC (.int 1)))))
  (mSeq (mIf (mAnd (mTst (mBin oEq (mVar 3) (mC (.str (cs "-"))))) (mTst (mBin oEq (mVar 7) (mBin oAdd (mVar 1) (mC (.int 1))))))
  (mRet (mTup (mCons (mC (.str (cs "no"))) (mCons (mVar 7) mNil))))
  mNext)
  (mSeq (mIf (mTst (mBin oGt (mBin oSub (mBin oSub (mVar 7) (mVar 1)) (mB oIntS (mCons (mBin oEq (mVar 3) (mC (.str (cs "-")))) mNil))) (mC (.int 40))))
  (mRet (mTup (mCons (mC (.str (cs "no"))) (mCons (mVar 1) mNil))))
  mNext)
  (mSeq (mIf (mTst (mBin oGt (mVar 7) (mVar 1)))
  (mRet (mTup (mCons (mC (.str (cs "yes"))) (mCons (mB oIntS (mCons (mSlice (mVar 0) (mPart (mVar 1)) (mPart (mVar 7))) mNil)) (mCons (mCall m__law_skip (mCons (mVar 0) (mCons (mVar 7) mNil))) mNil)))))
  mNext)
  (mSeq (mWhile whN (mAnd (mTst (mBin oNe (mSlice (mVar 0) (mPart (mVar 7)) (mPart (mBin oAdd (mVar 7) (mC (.int 1))))) (mC (.str (cs ""))))) (mTst (mChain oLe oLe (mC (.str (cs "a"))) (mBin oIxA (mVar 0) (mVar 7)) (mC (.str (cs "z"))))))
  (mSet 7 (mBin oAdd (mVar 7) (mC (.int 1)))))
  (mSeq (mIf (mTst (mBin oNotInA (mSlice (mVar 0) (mPart (mVar 1)) (mPart (mVar 7))) (mTup (mCons (mC (.str (cs "none"))) (mCons (mC (.str (cs "true"))) (mCons (mC (.str (cs "false"))) mNil))))))
  (mRet (mTup (mCons (mC (.str (cs "no"))) (mCons (mVar 1) mNil))))
  mNext)
  (mRet (mTup (mCons (mC (.str (cs "yes"))) (mCons (mBin oIxA (mDict [((mC (.str (cs "none"))), (mC .non)), ((mC (.str (cs "true"))), (mC (.bl true))), ((mC (.str (cs "false"))), (mC (.bl false)))]) (mSlice (mVar 0) (mPart (mVar 1)) (mPart (mVar 7)))) (mCons (mCall m__law_skip (mCons (mVar 0) (mCons (mVar 7) mNil))) mNil)))))))))))))))
theorem w__law_read (G : GK K mg) (h__law_skip : FnM P w K mg base 1 "_law_skip" 2 m__law_skip) {k : Nat} (hk : 1 ≤ k) {r__law_read : List D → List Cell → Res D} (h_rec__law_read : FnM P w K mg base k "_law_read" 3 r__law_read) {m : List D → List Cell → Res D} (hm : ∀ ds S, ds.length = 3 → RefR S (m ds S) (b__law_read r__law_read (startD 8 ds) S)) : FnM P w K mg base (k + 1) "_law_read" 3 m := by
  refine FnM.def (ps := ["text", "at", "deep"]) G.f__law_read sc__law_read (fun f cdv A outer s H E tk hp hr => ?_) hm
  unfold b__law_read
  exact (sb_cons (ss_set 3 sc__law_read.nd (se_slice (se_var 0) (so_some (se_var 1)) (so_some (se_bin od_add (se_var 1) se_int))))
  (sb_cons (ss_if (st_cmp (od_eq hr.units) (se_var 3) se_str)
  (sb_cons (ss_if (st_cmp (od_eq hr.units) (se_var 2) se_int)
    (sb_one (ss_ret (se_tup (sa_cons se_str (sa_cons (se_var 1) sa_nil)))))
    sb_nil)
    (sb_cons (ss_par 4 1 rfl sc__law_read.nd (sa_cons (se_tup sa_nil) (sa_cons (se_fn h__law_skip (hr.mono (by omega)) tk (sa_cons (se_var 0) (sa_cons (se_bin od_add (se_var 1) se_int) sa_nil)) (len_cons (len_cons len_nil))) sa_nil)))
    (sb_cons (ss_while whN hp (st_cmp (od_ne hr.units) (se_slice (se_var 0) (so_some (se_var 1)) (so_some (se_bin od_add (se_var 1) se_int))) se_str)
    (sb_cons (ss_set 5 sc__law_read.nd (se_fn h_rec__law_read (hr.mono (by omega)) tk (sa_cons (se_var 0) (sa_cons (se_var 1) (sa_cons (se_bin od_add (se_var 2) se_int) sa_nil))) (len_cons (len_cons (len_cons len_nil)))))
      (sb_cons (ss_if (st_cmp (od_eq hr.units) (se_ixA hr.units (se_var 5) se_int) se_str)
      (sb_one (ss_ret (se_var 5)))
      sb_nil)
      (sb_one (ss_par 4 1 rfl sc__law_read.nd (sa_cons (se_bin od_add (se_var 4) (se_tup (sa_cons (se_ixA hr.units (se_var 5) se_int) sa_nil))) (sa_cons (se_fn h__law_skip (hr.mono (by omega)) tk (sa_cons (se_var 0) (sa_cons (se_ixA hr.units (se_var 5) se_int) sa_nil)) (len_cons (len_cons len_nil))) sa_nil)))))))
    (sb_one (ss_ret (se_tup (sa_cons se_str (sa_cons (se_var 4) (sa_cons (se_fn h__law_skip (hr.mono (by omega)) tk (sa_cons (se_var 0) (sa_cons (se_bin od_add (se_var 1) se_int) sa_nil)) (len_cons (len_cons len_nil))) sa_nil)))))))))
  sb_nil)
  (sb_cons (ss_if (st_cmp (od_eq hr.units) (se_var 3) se_str)
  (sb_cons (ss_par 4 1 rfl sc__law_read.nd (sa_cons se_str (sa_cons (se_bin od_add (se_var 1) se_int) sa_nil)))
    (sb_cons (ss_while whN hp (st_cmp (od_ne hr.units) (se_slice (se_var 0) (so_some (se_var 1)) (so_some (se_bin od_add (se_var 1) se_int))) se_str)
    (sb_cons (ss_if (st_cmp od_ge (se_var 1) (se_callB cd_lenA G.b_len (sa_cons (se_var 0) sa_nil)))
      (sb_one (ss_ret (se_tup (sa_cons se_str (sa_cons (se_var 1) sa_nil)))))
      sb_nil)
      (sb_cons (ss_set 6 sc__law_read.nd (se_slice (se_var 0) (so_some (se_var 1)) (so_some (se_bin od_add (se_var 1) se_int))))
      (sb_cons (ss_if (st_sw (sw_and (st_cmp (od_eq hr.units) (se_ixA hr.units (se_var 0) (se_var 1)) se_str) (sw_and1 (st_cmp (od_notInA hr.units) (se_var 6) (se_tup (sa_cons se_str (sa_cons se_str (sa_cons se_str (sa_cons se_str sa_nil)))))))))
      (sb_one (ss_ret (se_tup (sa_cons se_str (sa_cons (se_var 1) sa_nil)))))
      sb_nil)
      (sb_cons (ss_set 4 sc__law_read.nd (se_bin od_add (se_var 4) (se_ife (st_cmp (od_eq hr.units) (se_ixA hr.units (se_var 0) (se_var 1)) se_str) (se_ixA hr.units (se_dict (.cons se_str se_str (.cons se_str se_str (.cons se_str se_str (.cons se_str se_str .nil))))) (se_var 6)) (se_ixA hr.units (se_var 0) (se_var 1)))))
      (sb_one (ss_set 1 sc__law_read.nd (se_bin od_add (se_var 1) (se_ife (st_cmp (od_eq hr.units) (se_ixA hr.units (se_var 0) (se_var 1)) se_str) se_int se_int)))))))))
    (sb_one (ss_ret (se_tup (sa_cons se_str (sa_cons (se_var 4) (sa_cons (se_fn h__law_skip (hr.mono (by omega)) tk (sa_cons (se_var 0) (sa_cons (se_bin od_add (se_var 1) se_int) sa_nil)) (len_cons (len_cons len_nil))) sa_nil))))))))
  sb_nil)
  (sb_cons (ss_set 7 sc__law_read.nd (se_bin od_add (se_var 1) (se_callTy cd_intS G.b_int (sa_cons (se_cmp (od_eq hr.units) (se_var 3) se_str) sa_nil))))
  (sb_cons (ss_while whN hp (st_sw (sw_and (st_cmp (od_ne hr.units) (se_slice (se_var 0) (so_some (se_var 7)) (so_some (se_bin od_add (se_var 7) se_int))) se_str) (sw_and1 (st_cmp (od_inA hr.units) (se_ixA hr.units (se_var 0) (se_var 7)) se_str))))
  (sb_one (ss_set 7 sc__law_read.nd (se_bin od_add (se_var 7) se_int))))
  (sb_cons (ss_if (st_sw (sw_and (st_cmp (od_eq hr.units) (se_var 3) se_str) (sw_and1 (st_cmp (od_eq hr.units) (se_var 7) (se_bin od_add (se_var 1) se_int)))))
  (sb_one (ss_ret (se_tup (sa_cons se_str (sa_cons (se_var 7) sa_nil)))))
  sb_nil)
  (sb_cons (ss_if (st_cmp od_gt (se_bin od_sub (se_bin od_sub (se_var 7) (se_var 1)) (se_callTy cd_intS G.b_int (sa_cons (se_cmp (od_eq hr.units) (se_var 3) se_str) sa_nil))) se_int)
  (sb_one (ss_ret (se_tup (sa_cons se_str (sa_cons (se_var 1) sa_nil)))))
  sb_nil)
  (sb_cons (ss_if (st_cmp od_gt (se_var 7) (se_var 1))
  (sb_one (ss_ret (se_tup (sa_cons se_str (sa_cons (se_callTy cd_intS G.b_int (sa_cons (se_slice (se_var 0) (so_some (se_var 1)) (so_some (se_var 7))) sa_nil)) (sa_cons (se_fn h__law_skip (hr.mono (by omega)) tk (sa_cons (se_var 0) (sa_cons (se_var 7) sa_nil)) (len_cons (len_cons len_nil))) sa_nil))))))
  sb_nil)
  (sb_cons (ss_while whN hp (st_sw (sw_and (st_cmp (od_ne hr.units) (se_slice (se_var 0) (so_some (se_var 7)) (so_some (se_bin od_add (se_var 7) se_int))) se_str) (sw_and1 (st_chain od_le od_le se_str (se_ixA hr.units (se_var 0) (se_var 7)) se_str))))
  (sb_one (ss_set 7 sc__law_read.nd (se_bin od_add (se_var 7) se_int))))
  (sb_cons (ss_if (st_cmp (od_notInA hr.units) (se_slice (se_var 0) (so_some (se_var 1)) (so_some (se_var 7))) (se_tup (sa_cons se_str (sa_cons se_str (sa_cons se_str sa_nil)))))
  (sb_one (ss_ret (se_tup (sa_cons se_str (sa_cons (se_var 1) sa_nil)))))
  sb_nil)
  (sb_one (ss_ret (se_tup (sa_cons se_str (sa_cons (se_ixA hr.units (se_dict (.cons se_str se_non (.cons se_str se_bl (.cons se_str se_bl .nil)))) (se_slice (se_var 0) (so_some (se_var 1)) (so_some (se_var 7)))) (sa_cons (se_fn h__law_skip (hr.mono (by omega)) tk (sa_cons (se_var 0) (sa_cons (se_var 7) sa_nil)) (len_cons (len_cons len_nil))) sa_nil))))))))))))))))
abbrev s__law_whole : Stmt := topS 26
abbrev N__law_whole : List Str := ["text", "told"]
theorem sc__law_whole : FnScope N__law_whole ["text"] (defScope s__law_whole) := ⟨rfl, rfl, rfl, by decide +kernel, rfl, by decide +kernel, by decide +kernel⟩
@[irreducible] noncomputable def b__law_whole : MS := (mSeq (mSet 1 (mCall (m__law_read 21) (mCons (mVar 0) (mCons (mCall m__law_skip (mCons (mVar 0) (mCons (mC (.int 0)) mNil))) (mCons (mC (.int 0)) mNil)))))
  (mRet (mIfE (mTst (mBin oEq (mBin oIxA (mVar 1) (mC (.int 0))) (mC (.str (cs "no"))))) (mVar 1) (mIfE (mTst (mBin oLt (mBin oIxA (mVar 1) (mC (.int 2))) (mB oLenA (mCons (mVar 0) mNil)))) (mTup (mCons (mC (.str (cs "no"))) (mCons (mBin oIxA (mVar 1) (mC (.int 2))) mNil))) (mTup (mCons (mC (.str (cs "yes"))) (mCons (mBin oIxA (mVar 1) (mC (.int 1))) mNil)))))))
theorem w__law_whole (G : GK K mg) (h__law_read : FnM P w K mg base 22 "_law_read" 3 (m__law_read 21)) (h__law_skip : FnM P w K mg base 1 "_law_skip" 2 m__law_skip) {m : List D → List Cell → Res D} (hm : ∀ ds S, ds.length = 1 → RefR S (m ds S) (b__law_whole (startD 2 ds) S)) : FnM P w K mg base (22 + 1) "_law_whole" 1 m := by
  refine FnM.def (ps := ["text"]) G.f__law_whole sc__law_whole (fun f cdv A outer s H E tk hp hr => ?_) hm
  unfold b__law_whole
  exact (sb_cons (ss_set 1 sc__law_whole.nd (se_fn h__law_read (hr.mono (by omega)) tk (sa_cons (se_var 0) (sa_cons (se_fn h__law_skip (hr.mono (by omega)) tk (sa_cons (se_var 0) (sa_cons se_int sa_nil)) (len_cons (len_cons len_nil))) (sa_cons se_int sa_nil))) (len_cons (len_cons (len_cons len_nil)))))
  (sb_one (ss_ret (se_ife (st_cmp (od_eq hr.units) (se_ixA hr.units (se_var 1) se_int) se_str) (se_var 1) (se_ife (st_cmp od_lt (se_ixA hr.units (se_var 1) se_int) (se_callB cd_lenA G.b_len (sa_cons (se_var 0) sa_nil))) (se_tup (sa_cons se_str (sa_cons (se_ixA hr.units (se_var 1) se_int) sa_nil))) (se_tup (sa_cons se_str (sa_cons (se_ixA hr.units (se_var 1) se_int) sa_nil))))))))
abbrev s__law_asked : Stmt := topS 27
abbrev N__law_asked : List Str := ["text", "e"]
theorem sc__law_asked : FnScope N__law_asked ["text"] (defScope s__law_asked) := ⟨rfl, rfl, rfl, by decide +kernel, rfl, by decide +kernel, by decide +kernel⟩
@[irreducible] noncomputable def b__law_asked : MS := (mTry tabX (mRet (mTup (mCons (mC (.str (cs "yes"))) (mCons (mCall m_read_shown (mCons (mVar 0) mNil)) mNil)))) [("InvalidText", some 1, (retTx (pxs1 (pxC (.str (cs "no"))) (pxs1 (pxF clX "place") pxs0)))), ("ChiptrueError", some 1, (retTx (pxs1 (pxC (.str (cs "other"))) (pxs1 (pxF clX "place") pxs0))))])
theorem w__law_asked (G : GK K mg) (Z : XK P w K mg) (h_read_shown : FnM P w K mg base 48 "read_shown" 1 m_read_shown) {m : List D → List Cell → Res D} (hm : ∀ ds S, ds.length = 1 → RefR S (m ds S) (b__law_asked (startD 2 ds) S)) : FnM P w K mg base (48 + 1) "_law_asked" 1 m := by
  refine FnM.def (ps := ["text"]) G.f__law_asked sc__law_asked (fun f cdv A outer s H E tk hp hr => ?_) hm
  unfold b__law_asked
  exact (sb_one (ss_tryE (tab := tabX) rfl rfl sc__law_asked.nd tk (fun _ pn xe tk hp => (sb_one (ss_ret (se_tup (sa_cons se_str (sa_cons (se_fn h_read_shown (hr.mono (by omega)) tk (sa_cons (se_var 0) sa_nil) (len_cons len_nil)) sa_nil)))))) (hsN (n := "InvalidText") 1 (k_InvalidText Z) (fun a oe cls d pn hz hf => (hd_retT (pxs_cons px_str (pxs_cons (px_field (f := "place") (f_place Z) (fun g h => ofString_inj h) hz hf) pxs_nil)))) (hsN (n := "ChiptrueError") 1 (k_ChiptrueError Z) (fun a oe cls d pn hz hf => (hd_retT (pxs_cons px_str (pxs_cons (px_field (f := "place") (f_place Z) (fun g h => ofString_inj h) hz hf) pxs_nil)))) hs0))))
abbrev s_law : Stmt := topS 28
abbrev N_law : List Str := ["script", "tape", "value", "text", "gap", "loose", "turn", "at", "sign", "bent", "deep", "large", "k", "one", "shown", "odd", "word"]
theorem sc_law : FnScope N_law ["script"] (defScope s_law) := ⟨rfl, rfl, rfl, by decide +kernel, rfl, by decide +kernel, by decide +kernel⟩
@[irreducible] noncomputable def b_law : MS := (mSeq (mSet 1 (mLst (mCons (mB oListC (mCons (mVar 0) mNil)) (mCons (mC (.int 0)) (mCons (mC (.int 0)) (mCons (mC (.int 80)) mNil))))))
  (mSeq (mSet 2 (mCall (m__law_draw 4) (mCons (mVar 1) (mCons (mC (.int 3)) mNil))))
  (mSeq (mPar 3 4 (mCons (mCall (m_show 23) (mCons (mVar 2) mNil)) (mCons (mBin oIxA (mTup (mCons (mC (.str (cs " "))) (mCons (mC (.str (cs "  "))) (mCons (mC (.str (cs "\n "))) (mCons (mC (.str (cs "   \n"))) mNil))))) (mCall m_next (mCons (mVar 1) (mCons (mC (.int 4)) mNil)))) mNil)))
  (mSeq (mSet 5 (mBin oAdd (mBin oAdd (mSlice (mVar 4) (mPart (mC (.int 1))) mNoPart) (mCall (m__law_show 23) (mCons (mVar 2) (mCons (mVar 4) mNil)))) (mSlice (mVar 4) (mPart (mC (.int 1))) mNoPart)))
  (mSeq (mIf (mNot (mTru (mCall (m_same 30) (mCons (mLst (mCons (mVar 3) (mCons (mCall m__law_asked (mCons (mVar 3) mNil)) (mCons (mCall m__law_asked (mCons (mVar 5) mNil)) (mCons (mCall m_is_shown (mCons (mVar 2) mNil)) mNil))))) (mCons (mLst (mCons (mCall (m__law_show 23) (mCons (mVar 2) (mCons (mC (.str (cs " "))) mNil))) (mCons (mTup (mCons (mC (.str (cs "yes"))) (mCons (mVar 2) mNil))) (mCons (mTup (mCons (mC (.str (cs "yes"))) (mCons (mVar 2) mNil))) (mCons (mC (.bl true)) mNil))))) mNil)))))
  (mRet (mC (.bl false)))
  mNext)
  (mSeq (mFor (mRng1 (mCons (mC (.int 5)) mNil)) (gN 6)
  (mSeq (mPar 7 8 (mCons (mCall m_next (mCons (mVar 1) (mCons (mBin oAdd (mB oLenA (mCons (mVar 3) mNil)) (mC (.int 1))) mNil))) (mCons (mBin oIxA (mC (.str (cs "()' -0a\\n\n\tez"))) (mCall m_next (mCons (mVar 1) (mCons (mC (.int 13)) mNil)))) mNil)))
    (mSeq (mSet 9 (mBin oIxA (mTup (mCons (mBin oAdd (mSlice (mVar 3) mNoPart (mPart (mVar 7))) (mSlice (mVar 3) (mPart (mBin oAdd (mVar 7) (mC (.int 1)))) mNoPart)) (mCons (mBin oAdd (mBin oAdd (mSlice (mVar 3) mNoPart (mPart (mVar 7))) (mVar 8)) (mSlice (mVar 3) (mPart (mVar 7)) mNoPart)) (mCons (mBin oAdd (mBin oAdd (mSlice (mVar 3) mNoPart (mPart (mVar 7))) (mVar 8)) (mSlice (mVar 3) (mPart (mBin oAdd (mVar 7) (mC (.int 1)))) mNoPart)) (mCons (mSlice (mVar 3) mNoPart (mPart (mVar 7))) mNil))))) (mCall m_next (mCons (mVar 1) (mCons (mC (.int 4)) mNil)))))
    (mIf (mNot (mTru (mCall (m_same 30) (mCons (mCall m__law_asked (mCons (mVar 9) mNil)) (mCons (mCall m__law_whole (mCons (mVar 9) mNil)) mNil)))))
    (mRet (mC (.bl false)))
    mNext))))
  (mSeq (mAsg (gTupD 2 (gsCons (gN 10) (gsCons (gN 11) gsNil))) (mTup (mCons (mTup mNil) (mCons (mC (.int 1)) mNil))))
  (mSeq (mFor (mRng1 (mCons (mBin oAdd (mC (.int 39)) (mCall m_next (mCons (mVar 1) (mCons (mC (.int 3)) mNil)))) mNil)) (gN 12)
  (mSet 11 (mBin oMulL (mVar 11) (mC (.int 10)))))
  (mSeq (mSet 11 (mBin oSub (mVar 11) (mCall m_next (mCons (mVar 1) (mCons (mC (.int 2)) mNil)))))
  (mSeq (mFor (mRng1 (mCons (mBin oAdd (mC (.int 18)) (mCall m_next (mCons (mVar 1) (mCons (mC (.int 4)) mNil)))) mNil)) (gN 12)
  (mSet 10 (mIfE (mTst (mBin oEq (mCall m_next (mCons (mVar 1) (mCons (mC (.int 2)) mNil))) (mC (.int 0)))) (mTup (mCons (mVar 10) (mCons (mC (.int 1)) mNil))) (mTup (mCons (mVar 10) mNil)))))
  (mSeq (mFor (mSeqI (mTup (mCons (mVar 10) (mCons (mVar 11) (mCons (mNeg (mVar 11)) (mCons (mTup (mCons (mC (.int 1)) (mCons (mVar 11) mNil))) mNil)))))) (gN 13)
  (mSeq (mSet 14 (mCall (m__law_show 23) (mCons (mVar 13) (mCons (mC (.str (cs " "))) mNil))))
    (mIf (mNot (mTru (mCall (m_same 30) (mCons (mLst (mCons (mCall m__law_asked (mCons (mVar 14) mNil)) (mCons (mCall m_is_shown (mCons (mVar 13) mNil)) mNil))) (mCons (mLst (mCons (mCall m__law_whole (mCons (mVar 14) mNil)) (mCons (mBin oEq (mBin oIxA (mCall m__law_whole (mCons (mVar 14) mNil)) (mC (.int 0))) (mC (.str (cs "yes")))) mNil))) mNil)))))
    (mRet (mC (.bl false)))
    mNext)))
  (mSeq (mSet 15 (mLst (mCons (mC (.int 1)) (mCons (mC (.str (cs "a"))) (mCons (mC .non) (mCons (mC (.bl true)) (mCons (mTup mNil) (mCons (mTup (mCons (mC (.str (cs "a"))) (mCons (mTup (mCons (mC (.int 1)) (mCons (mC .non) mNil))) mNil))) (mCons (mLst (mCons (mC (.int 1)) mNil)) (mCons (mTup (mCons (mC (.str (cs "a"))) (mCons (mLst (mCons (mC (.int 2)) mNil)) mNil))) (mCons (mDict [((mC (.str (cs "a"))), (mC (.int 1)))]) (mCons (mTup (mCons (mC .non) (mCons (mLst mNil) mNil))) mNil))))))))))))
  (mSeq (mSet 16 (mJoin (mC (.str (cs ""))) (mFresh (mLc (mRng1 (mCons (mCall m_next (mCons (mVar 1) (mCons (mC (.int 6)) mNil))) mNil)) [12] (gN 12) mYes (mBin oIxA (mC (.str (cs "a'\\\n\t )"))) (mCall m_next (mCons (mVar 1) (mCons (mC (.int 7)) mNil))))))))
  (mRet (mCall (m_same 30) (mCons (mLst (mCons (mFresh (mLc (mSeqI (mVar 15)) [13] (gN 13) mYes (mCall m_is_shown (mCons (mVar 13) mNil)))) (mCons (mCall m_quoted (mCons (mVar 16) mNil)) (mCons (mCall m__law_asked (mCons (mCall m_quoted (mCons (mVar 16) mNil)) mNil)) mNil)))) (mCons (mLst (mCons (mBin oAdd (mBin oMulL (mLst (mCons (mC (.bl true)) mNil)) (mC (.int 6))) (mBin oMulL (mLst (mCons (mC (.bl false)) mNil)) (mC (.int 4)))) (mCons (mCall m__law_quoted (mCons (mVar 16) mNil)) (mCons (mTup (mCons (mC (.str (cs "yes"))) (mCons (mVar 16) mNil))) mNil)))) mNil)))))))))))))))))
theorem w_law (G : GK K mg) (h__law_asked : FnM P w K mg base 49 "_law_asked" 1 m__law_asked) (h__law_draw : FnM P w K mg base 5 "_law_draw" 2 (m__law_draw 4)) (h__law_next : FnM P w K mg base 1 "_law_next" 2 m_next) (h__law_quoted : FnM P w K mg base 1 "_law_quoted" 1 m__law_quoted) (h__law_same : FnM P w K mg base 31 "_law_same" 2 (m_same 30)) (h__law_show : FnM P w K mg base 24 "_law_show" 2 (m__law_show 23)) (h__law_whole : FnM P w K mg base 23 "_law_whole" 1 m__law_whole) (h_is_shown : FnM P w K mg base 23 "is_shown" 1 m_is_shown) (h_quoted : FnM P w K mg base 1 "quoted" 1 m_quoted) (h_show : FnM P w K mg base 24 "show" 1 (m_show 23)) {f : Addr} {fd : FuncData} (F : Fun K "law" "law" s_law f fd) {m : List D → List Cell → Res D} (hm : ∀ ds S, ds.length = 1 → RefR S (m ds S) (b_law (startD 17 ds) S)) : FnOk P w K mg base (L2.CX P w) (49 + 1) f fd ["script"] (spM mg K 1 m) := by
  refine fnOk_def (ps := ["script"]) F sc_law (fun f cdv A outer s H E tk hp hr => ?_) hm
  unfold b_law
  exact (sb_cons (ss_set 1 sc_law.nd (se_lst (sa_cons (se_callTy cd_list G.b_list (sa_cons (se_var 0) sa_nil)) (sa_cons se_int (sa_cons se_int (sa_cons se_int sa_nil))))))
  (sb_cons (ss_set 2 sc_law.nd (se_fn h__law_draw (hr.mono (by omega)) tk (sa_cons (se_var 1) (sa_cons se_int sa_nil)) (len_cons (len_cons len_nil))))
  (sb_cons (ss_par 3 4 rfl sc_law.nd (sa_cons (se_fn h_show (hr.mono (by omega)) tk (sa_cons (se_var 2) sa_nil) (len_cons len_nil)) (sa_cons (se_ixA hr.units (se_tup (sa_cons se_str (sa_cons se_str (sa_cons se_str (sa_cons se_str sa_nil))))) (se_fn h__law_next (hr.mono (by omega)) tk (sa_cons (se_var 1) (sa_cons se_int sa_nil)) (len_cons (len_cons len_nil)))) sa_nil)))
  (sb_cons (ss_set 5 sc_law.nd (se_bin od_add (se_bin od_add (se_slice (se_var 4) (so_some se_int) so_none) (se_fn h__law_show (hr.mono (by omega)) tk (sa_cons (se_var 2) (sa_cons (se_var 4) sa_nil)) (len_cons (len_cons len_nil)))) (se_slice (se_var 4) (so_some se_int) so_none)))
  (sb_cons (ss_if (st_not (st_tru (se_fn h__law_same (hr.mono (by omega)) tk (sa_cons (se_lst (sa_cons (se_var 3) (sa_cons (se_fn h__law_asked (hr.mono (by omega)) tk (sa_cons (se_var 3) sa_nil) (len_cons len_nil)) (sa_cons (se_fn h__law_asked (hr.mono (by omega)) tk (sa_cons (se_var 5) sa_nil) (len_cons len_nil)) (sa_cons (se_fn h_is_shown (hr.mono (by omega)) tk (sa_cons (se_var 2) sa_nil) (len_cons len_nil)) sa_nil))))) (sa_cons (se_lst (sa_cons (se_fn h__law_show (hr.mono (by omega)) tk (sa_cons (se_var 2) (sa_cons se_str sa_nil)) (len_cons (len_cons len_nil))) (sa_cons (se_tup (sa_cons se_str (sa_cons (se_var 2) sa_nil))) (sa_cons (se_tup (sa_cons se_str (sa_cons (se_var 2) sa_nil))) (sa_cons se_bl sa_nil))))) sa_nil)) (len_cons (len_cons len_nil)))))
  (sb_one (ss_ret se_bl))
  sb_nil)
  (sb_cons (ss_for hp rfl (si_range1 G.b_range (sa_cons se_int sa_nil)) (sg_name 6 sc_law.nd)
  (sb_cons (ss_par 7 8 rfl sc_law.nd (sa_cons (se_fn h__law_next (hr.mono (by omega)) tk (sa_cons (se_var 1) (sa_cons (se_bin od_add (se_callB cd_lenA G.b_len (sa_cons (se_var 3) sa_nil)) se_int) sa_nil)) (len_cons (len_cons len_nil))) (sa_cons (se_ixA hr.units se_str (se_fn h__law_next (hr.mono (by omega)) tk (sa_cons (se_var 1) (sa_cons se_int sa_nil)) (len_cons (len_cons len_nil)))) sa_nil)))
    (sb_cons (ss_set 9 sc_law.nd (se_ixA hr.units (se_tup (sa_cons (se_bin od_add (se_slice (se_var 3) so_none (so_some (se_var 7))) (se_slice (se_var 3) (so_some (se_bin od_add (se_var 7) se_int)) so_none)) (sa_cons (se_bin od_add (se_bin od_add (se_slice (se_var 3) so_none (so_some (se_var 7))) (se_var 8)) (se_slice (se_var 3) (so_some (se_var 7)) so_none)) (sa_cons (se_bin od_add (se_bin od_add (se_slice (se_var 3) so_none (so_some (se_var 7))) (se_var 8)) (se_slice (se_var 3) (so_some (se_bin od_add (se_var 7) se_int)) so_none)) (sa_cons (se_slice (se_var 3) so_none (so_some (se_var 7))) sa_nil))))) (se_fn h__law_next (hr.mono (by omega)) tk (sa_cons (se_var 1) (sa_cons se_int sa_nil)) (len_cons (len_cons len_nil)))))
    (sb_one (ss_if (st_not (st_tru (se_fn h__law_same (hr.mono (by omega)) tk (sa_cons (se_fn h__law_asked (hr.mono (by omega)) tk (sa_cons (se_var 9) sa_nil) (len_cons len_nil)) (sa_cons (se_fn h__law_whole (hr.mono (by omega)) tk (sa_cons (se_var 9) sa_nil) (len_cons len_nil)) sa_nil)) (len_cons (len_cons len_nil)))))
    (sb_one (ss_ret se_bl))
    sb_nil)))))
  (sb_cons (ss_asg (se_tup (sa_cons (se_tup sa_nil) (sa_cons se_int sa_nil))) (sg_tup rfl (sgs_cons (sg_name 10 sc_law.nd) (sgs_cons (sg_name 11 sc_law.nd) sgs_nil (gN_noex 11) gsNil_noex) (gN_noex 10) (gsCons_noex (gN_noex 11) gsNil_noex))))
  (sb_cons (ss_for hp rfl (si_range1 G.b_range (sa_cons (se_bin od_add se_int (se_fn h__law_next (hr.mono (by omega)) tk (sa_cons (se_var 1) (sa_cons se_int sa_nil)) (len_cons (len_cons len_nil)))) sa_nil)) (sg_name 12 sc_law.nd)
  (sb_one (ss_set 11 sc_law.nd (se_bin od_mulL (se_var 11) se_int))))
  (sb_cons (ss_set 11 sc_law.nd (se_bin od_sub (se_var 11) (se_fn h__law_next (hr.mono (by omega)) tk (sa_cons (se_var 1) (sa_cons se_int sa_nil)) (len_cons (len_cons len_nil)))))
  (sb_cons (ss_for hp rfl (si_range1 G.b_range (sa_cons (se_bin od_add se_int (se_fn h__law_next (hr.mono (by omega)) tk (sa_cons (se_var 1) (sa_cons se_int sa_nil)) (len_cons (len_cons len_nil)))) sa_nil)) (sg_name 12 sc_law.nd)
  (sb_one (ss_set 10 sc_law.nd (se_ife (st_cmp (od_eq hr.units) (se_fn h__law_next (hr.mono (by omega)) tk (sa_cons (se_var 1) (sa_cons se_int sa_nil)) (len_cons (len_cons len_nil))) se_int) (se_tup (sa_cons (se_var 10) (sa_cons se_int sa_nil))) (se_tup (sa_cons (se_var 10) sa_nil))))))
  (sb_cons (ss_for hp rfl (si_seq (se_tup (sa_cons (se_var 10) (sa_cons (se_var 11) (sa_cons (se_neg (se_var 11)) (sa_cons (se_tup (sa_cons se_int (sa_cons (se_var 11) sa_nil))) sa_nil)))))) (sg_name 13 sc_law.nd)
  (sb_cons (ss_set 14 sc_law.nd (se_fn h__law_show (hr.mono (by omega)) tk (sa_cons (se_var 13) (sa_cons se_str sa_nil)) (len_cons (len_cons len_nil))))
    (sb_one (ss_if (st_not (st_tru (se_fn h__law_same (hr.mono (by omega)) tk (sa_cons (se_lst (sa_cons (se_fn h__law_asked (hr.mono (by omega)) tk (sa_cons (se_var 14) sa_nil) (len_cons len_nil)) (sa_cons (se_fn h_is_shown (hr.mono (by omega)) tk (sa_cons (se_var 13) sa_nil) (len_cons len_nil)) sa_nil))) (sa_cons (se_lst (sa_cons (se_fn h__law_whole (hr.mono (by omega)) tk (sa_cons (se_var 14) sa_nil) (len_cons len_nil)) (sa_cons (se_cmp (od_eq hr.units) (se_ixA hr.units (se_fn h__law_whole (hr.mono (by omega)) tk (sa_cons (se_var 14) sa_nil) (len_cons len_nil)) se_int) se_str) sa_nil))) sa_nil)) (len_cons (len_cons len_nil)))))
    (sb_one (ss_ret se_bl))
    sb_nil))))
  (sb_cons (ss_set 15 sc_law.nd (se_lst (sa_cons se_int (sa_cons se_str (sa_cons se_non (sa_cons se_bl (sa_cons (se_tup sa_nil) (sa_cons (se_tup (sa_cons se_str (sa_cons (se_tup (sa_cons se_int (sa_cons se_non sa_nil))) sa_nil))) (sa_cons (se_lst (sa_cons se_int sa_nil)) (sa_cons (se_tup (sa_cons se_str (sa_cons (se_lst (sa_cons se_int sa_nil)) sa_nil))) (sa_cons (se_dict (.cons se_str se_int .nil)) (sa_cons (se_tup (sa_cons se_non (sa_cons (se_lst sa_nil) sa_nil))) sa_nil))))))))))))
  (sb_cons (ss_set 16 sc_law.nd (se_join se_str (se_fresh (sl_lc [(("k" : Str), 12)] rfl sc_law.nd (si_range1 G.b_range (sa_cons (se_fn h__law_next (hr.mono (by omega)) tk (sa_cons (se_var 1) (sa_cons se_int sa_nil)) (len_cons (len_cons len_nil))) sa_nil)) (blkOk_by (N := N_law) (sc := defScope s_law) (by decide +kernel)) (fun _ _ _ _ _ => (sgw_name 12 sc_law.nd)) (fun _ _ _ _ _ => sts_nil) (fun _ _ _ _ _ => (se_ixA hr.units se_str (se_fn h__law_next (hr.mono (by omega)) takes0 (sa_cons (se_var 1) (sa_cons se_int sa_nil)) (len_cons (len_cons len_nil)))))))))
  (sb_one (ss_ret (se_fn h__law_same (hr.mono (by omega)) tk (sa_cons (se_lst (sa_cons (se_fresh (sl_lc [(("one" : Str), 13)] rfl sc_law.nd (si_seq (se_var 15)) (blkOk_by (N := N_law) (sc := defScope s_law) (by decide +kernel)) (fun _ _ _ _ _ => (sgw_name 13 sc_law.nd)) (fun _ _ _ _ _ => sts_nil) (fun _ _ _ _ _ => (se_fn h_is_shown (hr.mono (by omega)) takes0 (sa_cons (se_var 13) sa_nil) (len_cons len_nil))))) (sa_cons (se_fn h_quoted (hr.mono (by omega)) tk (sa_cons (se_var 16) sa_nil) (len_cons len_nil)) (sa_cons (se_fn h__law_asked (hr.mono (by omega)) tk (sa_cons (se_fn h_quoted (hr.mono (by omega)) tk (sa_cons (se_var 16) sa_nil) (len_cons len_nil)) sa_nil) (len_cons len_nil)) sa_nil)))) (sa_cons (se_lst (sa_cons (se_bin od_add (se_bin od_mulL (se_lst (sa_cons se_bl sa_nil)) se_int) (se_bin od_mulL (se_lst (sa_cons se_bl sa_nil)) se_int)) (sa_cons (se_fn h__law_quoted (hr.mono (by omega)) tk (sa_cons (se_var 16) sa_nil) (len_cons len_nil)) (sa_cons (se_tup (sa_cons se_str (sa_cons (se_var 16) sa_nil))) sa_nil)))) sa_nil)) (len_cons (len_cons len_nil))))))))))))))))))
end
end K80

namespace K80
open PySem PySem.Spec PyProof.Rows L2 Fx
/-! ### the law's body -/
theorem seq_ex {a b : MS} {sd sd1 : Sl} {S S1 : List Cell} (h1 : a sd S = .nx sd1 S1) (h2 : ∃ S2, b sd1 S1 = .rt (.bl true) S2) : ∃ S2, mSeq a b sd S = .rt (.bl true) S2 := by
  obtain ⟨S2, h2⟩ := h2
  exact ⟨S2, by rw [mSeq_ev, h1]; exact h2⟩
theorem sz {n : Nat} (h : n ≤ 1000) : n ≤ sizeLine := line_le (by omega)
theorem asked_ok {t : List Nat} {S : List Cell} (h : okT t = true) (hl : t.length ≤ 100000) : m__law_asked [.str t] S = .ok (tolR (rdS t)) S := by
  unfold m__law_asked
  simp only
  rw [if_pos ⟨hl, h⟩]
theorem whole_ok {t : List Nat} {S : List Cell} (h : okT t = true) (hl : t.length ≤ 100000) : m__law_whole [.str t] S = .ok (tolR (rdS t)) S := by
  unfold m__law_whole
  simp only
  rw [if_pos ⟨hl, h⟩]
theorem show_ok {d : D} {S : List Cell} (h : okV 23 d) (hl : (shwN [32] 23 d).length ≤ 10000) : m_show 23 [d] S = .ok (.str (shwN [32] 23 d)) S := by
  unfold m_show
  simp only
  rw [if_pos ⟨h, hl⟩]
theorem lshow_ok {d : D} {g : List Nat} {S : List Cell} (h : okV 23 d) (hl : (shwN g 23 d).length ≤ 10000) (hg : g.length ≤ 10) : m__law_show 23 [d, .str g] S = .ok (.str (shwN g 23 d)) S := by
  unfold m__law_show
  simp only
  rw [if_pos ⟨h, hl, hg⟩]
theorem is_ok {d : D} {S : List Cell} (h : vD S 20 d) : m_is_shown [d] S = .ok (.bl (isT 20 d)) S := by
  unfold m_is_shown
  simp only
  rw [if_pos h]
theorem same_str {S : List Cell} {n : Nat} {x : List Nat} (h : okT x = true) : SameP S (n + 1) (.str x) (.str x) := ⟨rfl, okT_mem h⟩
theorem same_tol {S : List Cell} {t : List Nat} (h : okT t = true) (hl : t.length ≤ 1000) : SameP S 22 (tolR (rdS t)) (tolR (rdS t)) := by
  cases e : rdS t with
  | no p => exact ⟨by simp, same_str ono, rfl, trivial⟩
  | yes d b =>
    have hd : SameP S 21 d d := by
      unfold rdS at e
      split at e
      · cases e
      · rename_i d1 b1 e1
        split at e
        · cases e
        · cases e
          exact (rdV_good h 20 _ _ _ e1).2.2 hl S
    exact ⟨by simp, same_str oyes, hd, trivial⟩
theorem app_get (S l : List Cell) (k : Nat) : (S ++ l)[S.length + k]? = l[k]? := by
  rw [List.getElem?_append_right (by omega)]
  congr 1
  omega
theorem app_get0 (S l : List Cell) : (S ++ l)[S.length]? = l[0]? := app_get S l 0
theorem same_two {S : List Cell} {n : Nat} {xs ys : List D} (hl : xs.length ≤ 1000) (h : sameL (SameP (S ++ [.lst xs, .lst ys]) n) xs ys) : SameP (S ++ [.lst xs, .lst ys]) (n + 1) (.loc S.length) (.loc (S.length + 1)) :=
  ⟨xs, ys, by rw [cellL_ev, app_get0]; rfl, by rw [cellL_ev, app_get]; rfl, hl, h⟩
theorem if_same {c : MA} {sd : Sl} {S S1 : List Cell} {a b : D} (h : c sd S = .ok [a, b] S1) (hs : SameP S1 30 a b) : (mIf (mNot (mTru (mCall (m_same 30) c))) (mRet (mC (.bl false))) mNext) sd S = .nx sd S1 := by
  simp only [mIf_ev, mNot_ev, mTru_ev, mCall_ev, h, bind_ok, m_same_ok hs, truD_bl, optR_some, thenS_ok, Bool.not_true, Bool.false_eq_true, if_false, mNext_ev]
theorem lst_ev {A : MA} {sd : Sl} {S S1 : List Cell} {ds : List D} (h : A sd S = .ok ds S1) (hz : ds.length ≤ 1000) : mLst A sd S = .ok (.loc S1.length) (S1 ++ [.lst ds]) := by
  rw [mLst_ev, h, bind_ok, if_pos (sz hz)]
/-- [..], [..] -/
theorem two_ev {A B : MA} {sd : Sl} {S : List Cell} {xs ys : List D} (hA : A sd S = .ok xs S) (hB : B sd (S ++ [.lst xs]) = .ok ys (S ++ [.lst xs])) (h1 : xs.length ≤ 1000) (h2 : ys.length ≤ 1000) :
    (mCons (mLst A) (mCons (mLst B) mNil)) sd S = .ok [.loc S.length, .loc (S.length + 1)] (S ++ [.lst xs, .lst ys]) := by
  rw [mCons_ev, lst_ev hA h1, bind_ok, mCons_ev, lst_ev hB h2, bind_ok, mNil_ev, bind_ok, bind_ok]
  simp
abbrev sl17 (c v T g lo : D) (x6 x7 x8 x9 x10 x11 x12 x13 x14 x15 x16 : Option D) : Sl := [some c, some (.loc 1), some v, some T, some g, some lo, x6, x7, x8, x9, x10, x11, x12, x13, x14, x15, x16]
theorem cut_take (t : List Nat) (a : Nat) : cutG t none (some (a : Int)) = t.take a := by
  unfold cutG
  rw [HT.sIx_nat]
  have h2 : HT.sIx t.length 0 none = 0 := rfl
  rw [h2, List.drop_zero, Nat.sub_zero, List.take_eq_take_iff]
  omega
theorem cut_drop (t : List Nat) (a : Nat) : cutG t (some (a : Int)) none = t.drop a := by
  unfold cutG
  rw [HT.sIx_nat]
  have h2 : HT.sIx t.length t.length none = t.length := rfl
  rw [h2]
  by_cases h : a ≤ t.length
  · rw [Nat.min_eq_left h, List.take_of_length_le (by rw [List.length_drop]; omega)]
  · rw [List.drop_of_length_le (by omega), List.drop_of_length_le (by omega)]
    simp
/-! #### the four gaps -/
def gaps : List (List Nat) := [[32], [32, 32], [10, 32], [32, 32, 32, 10]]
theorem gap_ok {j : Nat} (h : j < 4) : ∃ g, (gaps.map D.str)[j]? = some (.str g) ∧ okG g ∧ okT g = true ∧ g.length ≤ 4 := by
  have hb : ∀ g ∈ gaps, okG g ∧ okT g = true ∧ g.length ≤ 4 := by
    intro g hg
    simp only [gaps, List.mem_cons, List.not_mem_nil, or_false] at hg
    rcases hg with rfl | rfl | rfl | rfl <;> exact ⟨⟨by decide, by decide +kernel⟩, by decide, by decide⟩
  have hj : j < gaps.length := h
  exact ⟨gaps[j], by rw [List.getElem?_map, List.getElem?_eq_getElem hj]; rfl, hb _ (List.getElem_mem hj)⟩
theorem cs_g2 : cs "  " = [32, 32] := by decide +kernel
theorem cs_g3 : cs "\n " = [10, 32] := by decide +kernel
theorem cs_g4 : cs "   \n" = [32, 32, 32, 10] := by decide +kernel
noncomputable abbrev pGap : MS := (mPar 3 4 (mCons (mCall (m_show 23) (mCons (mVar 2) mNil)) (mCons (mBin oIxA (mTup (mCons (mC (.str (cs " "))) (mCons (mC (.str (cs "  "))) (mCons (mC (.str (cs "\n "))) (mCons (mC (.str (cs "   \n"))) mNil))))) (mCall m_next (mCons (mVar 1) (mCons (mC (.int 4)) mNil)))) mNil)))
theorem l_gap {ns : List Int} {st : Tp} {c v : D} {R : List Cell} (hs : okst st) (h : okV 23 v) (hl : (shwN [32] 23 v).length ≤ 1000) : ∃ g st', pGap [some c, some (.loc 1), some v, none, none, none, none, none, none, none, none, none, none, none, none, none, none] (tpc ns st R) =
    .nx [some c, some (.loc 1), some v, some (.str (shwN [32] 23 v)), some (.str g), none, none, none, none, none, none, none, none, none, none, none, none] (tpc ns st' R) ∧ okst st' ∧ okG g ∧ okT g = true ∧ g.length ≤ 4 := by
  obtain ⟨a1, a2, a3⟩ := nx_ok (ns := ns) (many := 4) (by decide) hs
  have n1 := m_nx (ns := ns) (many := 4) hs (by decide) (by decide) R
  obtain ⟨j, hj⟩ := Int.eq_ofNat_of_zero_le a1
  obtain ⟨g, g1, g2, g3, g4⟩ := gap_ok (j := j) (by omega)
  rw [hj] at n1
  refine ⟨g, _, ?_, a3, g2, g3, g4⟩
  have g1 : [D.str [32], .str [32, 32], .str [10, 32], .str [32, 32, 32, 10]][j]? = some (.str g) := g1
  simp only [pGap, mPar_ev, mCons_ev, mCall_ev, mVar_ev, mNil_ev, bind_ok, List.getElem?_cons_succ, List.getElem?_cons_zero, show_ok h (show _ ≤ 10000 by omega), mBin_ev, mTup_ev, mC_ev, css, cs_g2, cs_g3, cs_g4, List.length_cons, List.length_nil, Nat.zero_add, sz (show 4 ≤ 1000 by omega), if_true, n1, oIxA_tup, atI_nat', g1, optR_some, List.set_cons_succ, List.set_cons_zero]
noncomputable abbrev pLoose : MS := (mSet 5 (mBin oAdd (mBin oAdd (mSlice (mVar 4) (mPart (mC (.int 1))) mNoPart) (mCall (m__law_show 23) (mCons (mVar 2) (mCons (mVar 4) mNil)))) (mSlice (mVar 4) (mPart (mC (.int 1))) mNoPart)))
theorem l_loose {c v T : D} {g : List Nat} {S : List Cell} (h : okV 23 v) (hl : (shwN g 23 v).length ≤ 900) (hg : g.length ≤ 4) : pLoose [some c, some (.loc 1), some v, some T, some (.str g), none, none, none, none, none, none, none, none, none, none, none, none] S =
    .nx (sl17 c v T (.str g) (.str (g.tail ++ shwN g 23 v ++ g.tail)) none none none none none none none none none none none) S := by
  have zg : g.length ≤ sizeLine := sz (by omega)
  have ht : g.tail.length ≤ 3 := by rw [List.length_tail]; omega
  have z1 : g.tail.length + (shwN g 23 v).length ≤ sizeLine := sz (by omega)
  have z2 : (g.tail ++ shwN g 23 v).length + g.tail.length ≤ sizeLine := sz (by rw [List.length_append]; omega)
  simp only [pLoose, mSet_ev, mBin_ev, mSlice_ev, mPart_ev, mNoPart_ev, mVar_ev, mC_ev, bind_ok, thenS_ok, List.getElem?_cons_succ, List.getElem?_cons_zero, intD_int, oSl, zg, if_true, cut_tail, mCall_ev, mCons_ev, mNil_ev, lshow_ok (S := S) h (show (shwN g 23 v).length ≤ 10000 by omega) (show g.length ≤ 10 by omega), oAdd_str, z1, z2, List.set_cons_succ, List.set_cons_zero]
noncomputable abbrev pSame : MS := (mIf (mNot (mTru (mCall (m_same 30) (mCons (mLst (mCons (mVar 3) (mCons (mCall m__law_asked (mCons (mVar 3) mNil)) (mCons (mCall m__law_asked (mCons (mVar 5) mNil)) (mCons (mCall m_is_shown (mCons (mVar 2) mNil)) mNil))))) (mCons (mLst (mCons (mCall (m__law_show 23) (mCons (mVar 2) (mCons (mC (.str (cs " "))) mNil))) (mCons (mTup (mCons (mC (.str (cs "yes"))) (mCons (mVar 2) mNil))) (mCons (mTup (mCons (mC (.str (cs "yes"))) (mCons (mVar 2) mNil))) (mCons (mC (.bl true)) mNil))))) mNil)))))
  (mRet (mC (.bl false)))
  mNext)
theorem l_same {c v : D} {g : List Nat} {S : List Cell} (hd : isDrawn 3 v) (hg : okG g) (ho : okT g = true) (hg4 : g.length ≤ 4) : ∃ L, pSame (sl17 c v (.str (shwN [32] 23 v)) (.str g) (.str (g.tail ++ shwN g 23 v ++ g.tail)) none none none none none none none none none none none) S =
    .nx (sl17 c v (.str (shwN [32] 23 v)) (.str g) (.str (g.tail ++ shwN g 23 v ++ g.tail)) none none none none none none none none none none none) (S ++ L) := by
  obtain ⟨hR, l1⟩ := drawn_ok (g := [32]) (by decide) hd
  obtain ⟨_, l2⟩ := drawn_ok (g := g) hg4 hd
  have hL : lenD 3 = 800 := by decide
  rw [hL] at l1 l2
  have hv := okR_okV hR
  have v23 : okV 23 v := okV_mono (n := 4) (by omega) hv
  have e1 := shw_mono [32] (n := 4) (m := 23) (by omega) hv
  have e2 := shw_mono g (n := 4) (m := 23) (by omega) hv
  have ht : g.tail.length ≤ 3 := by rw [List.length_tail]; omega
  obtain ⟨b1, r1⟩ := rdS_shw g32 nb nb (n := 4) (by omega) hR
  rw [List.nil_append, List.append_nil, ← e1] at r1
  obtain ⟨b2, r2⟩ := rdS_shw hg hg.tail hg.tail (n := 4) (by omega) hR
  rw [← e2] at r2
  rw [← e1] at l1
  rw [← e2] at l2
  have o1 : okT (shwN [32] 23 v) = true := shw_okT (by decide) v23
  have o2 : okT (g.tail ++ shwN g 23 v ++ g.tail) = true := okT_app (okT_app (okT_tail ho) (shw_okT ho v23)) (okT_tail ho)
  have k2 : (g.tail ++ shwN g 23 v ++ g.tail).length ≤ 1000 := by rw [List.length_append, List.length_append]; omega
  have s1 := same_tol (S := S ++ [.lst [.str (shwN [32] 23 v), .tup [.str (cs "yes"), v], .tup [.str (cs "yes"), v], .bl true], .lst [.str (shwN [32] 23 v), .tup [.str (cs "yes"), v], .tup [.str (cs "yes"), v], .bl true]]) o1 (by omega)
  rw [r1] at s1
  have s1 : SameP _ 22 (.tup [.str (cs "yes"), v]) (.tup [.str (cs "yes"), v]) := s1
  refine ⟨[.lst [.str (shwN [32] 23 v), .tup [.str (cs "yes"), v], .tup [.str (cs "yes"), v], .bl true], .lst [.str (shwN [32] 23 v), .tup [.str (cs "yes"), v], .tup [.str (cs "yes"), v], .bl true]], ?_⟩
  refine if_same (two_ev (xs := [.str (shwN [32] 23 v), .tup [.str (cs "yes"), v], .tup [.str (cs "yes"), v], .bl true]) (ys := [.str (shwN [32] 23 v), .tup [.str (cs "yes"), v], .tup [.str (cs "yes"), v], .bl true]) ?_ ?_ (by simp) (by simp)) (SameP_mono (n := 23) (by omega) (same_two (by simp) ⟨same_str o1, s1, s1, rfl, trivial⟩))
  · simp only [mCons_ev, mVar_ev, mCall_ev, mNil_ev, bind_ok, List.getElem?_cons_succ, List.getElem?_cons_zero, asked_ok o1 (show _ ≤ 100000 by omega), asked_ok o2 (show _ ≤ 100000 by omega), r1, r2, tolR, is_ok (okV_vD v23), isT_ok (n := 4) (N := 20) (by omega) hR]
  · simp only [mCons_ev, mVar_ev, mCall_ev, mNil_ev, mC_ev, mTup_ev, bind_ok, List.getElem?_cons_succ, List.getElem?_cons_zero, css, lshow_ok v23 (show _ ≤ 10000 by omega) (show [32].length ≤ 10 by decide), List.length_cons, List.length_nil, Nat.zero_add, z2, show (1 + 1 ≤ sizeLine) from z2, if_true]
/-! #### bent texts -/
def alpha : List Nat := [40, 41, 39, 32, 45, 48, 97, 92, 110, 10, 9, 101, 122]
theorem cs_al : cs "()' -0a\\n\n\tez" = alpha := by decide +kernel
noncomputable abbrev pBend : MS := (mSeq (mPar 7 8 (mCons (mCall m_next (mCons (mVar 1) (mCons (mBin oAdd (mB oLenA (mCons (mVar 3) mNil)) (mC (.int 1))) mNil))) (mCons (mBin oIxA (mC (.str (cs "()' -0a\\n\n\tez"))) (mCall m_next (mCons (mVar 1) (mCons (mC (.int 13)) mNil)))) mNil)))
    (mSeq (mSet 9 (mBin oIxA (mTup (mCons (mBin oAdd (mSlice (mVar 3) mNoPart (mPart (mVar 7))) (mSlice (mVar 3) (mPart (mBin oAdd (mVar 7) (mC (.int 1)))) mNoPart)) (mCons (mBin oAdd (mBin oAdd (mSlice (mVar 3) mNoPart (mPart (mVar 7))) (mVar 8)) (mSlice (mVar 3) (mPart (mVar 7)) mNoPart)) (mCons (mBin oAdd (mBin oAdd (mSlice (mVar 3) mNoPart (mPart (mVar 7))) (mVar 8)) (mSlice (mVar 3) (mPart (mBin oAdd (mVar 7) (mC (.int 1)))) mNoPart)) (mCons (mSlice (mVar 3) mNoPart (mPart (mVar 7))) mNil))))) (mCall m_next (mCons (mVar 1) (mCons (mC (.int 4)) mNil)))))
    (mIf (mNot (mTru (mCall (m_same 30) (mCons (mCall m__law_asked (mCons (mVar 9) mNil)) (mCons (mCall m__law_whole (mCons (mVar 9) mNil)) mNil)))))
    (mRet (mC (.bl false)))
    mNext)))
theorem okT_tk {t : List Nat} (h : okT t = true) (a : Nat) : okT (t.take a) = true := okT_of fun c hc => okT_mem h c (List.mem_of_mem_take hc)
theorem okT_dr {t : List Nat} (h : okT t = true) (a : Nat) : okT (t.drop a) = true := okT_of fun c hc => okT_mem h c (List.mem_of_mem_drop hc)
theorem l_bend {ns : List Int} {st : Tp} {c v g lo : D} {t : List Nat} {R : List Cell} {x6 x7 x8 x9 : Option D} (hs : okst st) (ht : okT t = true) (hl : t.length ≤ 900) : ∃ x7' x8' x9' st', pBend (sl17 c v (.str t) g lo x6 x7 x8 x9 none none none none none none none) (tpc ns st R) =
    .nx (sl17 c v (.str t) g lo x6 x7' x8' x9' none none none none none none none) (tpc ns st' R) ∧ okst st' := by
  obtain ⟨a1, a2, a3⟩ := nx_ok (ns := ns) (many := (t.length : Int) + 1) (by omega) hs
  have n1 := m_nx (ns := ns) (many := (t.length : Int) + 1) hs (by omega) (by omega) R
  obtain ⟨a, ha⟩ := Int.eq_ofNat_of_zero_le a1
  obtain ⟨b1, b2, b3⟩ := nx_ok (ns := ns) (many := 13) (by decide) a3
  have n2 := m_nx (ns := ns) (many := 13) a3 (by decide) (by decide) R
  obtain ⟨j, hj⟩ := Int.eq_ofNat_of_zero_le b1
  obtain ⟨d1, d2, d3⟩ := nx_ok (ns := ns) (many := 4) (by decide) b3
  have n3 := m_nx (ns := ns) (many := 4) b3 (by decide) (by decide) R
  obtain ⟨k, hk⟩ := Int.eq_ofNat_of_zero_le d1
  rw [ha] at n1
  rw [hj] at n2
  rw [hk] at n3
  have hjl : j < alpha.length := by show j < 13; omega
  have sg : alpha[j]? = some alpha[j] := List.getElem?_eq_getElem hjl
  generalize hsg : alpha[j] = q at sg
  have oq : okT [q] = true := by
    have : ∀ c ∈ alpha, okT [c] = true := by decide
    rw [← hsg]
    exact this _ (List.getElem_mem hjl)
  have lt := List.length_take (i := a) (l := t)
  have ld := List.length_drop (i := a) (l := t)
  have ld1 := List.length_drop (i := a + 1) (l := t)
  have hB : ∃ B, [D.str (t.take a ++ t.drop (a + 1)), .str (t.take a ++ [q] ++ t.drop a), .str (t.take a ++ [q] ++ t.drop (a + 1)), .str (t.take a)][k]? = some (.str B) ∧ okT B = true ∧ B.length ≤ 1000 := by
    have hk4 : k < 4 := by omega
    have : k = 0 ∨ k = 1 ∨ k = 2 ∨ k = 3 := by omega
    rcases this with rfl | rfl | rfl | rfl
    · exact ⟨_, rfl, okT_app (okT_tk ht _) (okT_dr ht _), by rw [List.length_append]; omega⟩
    · exact ⟨_, rfl, okT_app (okT_app (okT_tk ht _) oq) (okT_dr ht _), by rw [List.length_append, List.length_append, List.length_singleton]; omega⟩
    · exact ⟨_, rfl, okT_app (okT_app (okT_tk ht _) oq) (okT_dr ht _), by rw [List.length_append, List.length_append, List.length_singleton]; omega⟩
    · exact ⟨_, rfl, okT_tk ht _, by omega⟩
  obtain ⟨B, hB, oB, lB⟩ := hB
  have zt : t.length ≤ sizeLine := sz (by omega)
  have za : alpha.length ≤ sizeLine := sz (by decide)
  have y1 : (t.take a).length + (t.drop (a + 1)).length ≤ sizeLine := sz (by omega)
  have y2 : (t.take a).length + 1 ≤ sizeLine := sz (by omega)
  have y3 : (t.take a ++ [q]).length + (t.drop a).length ≤ sizeLine := sz (by rw [List.length_append, List.length_singleton]; omega)
  have y4 : (t.take a ++ [q]).length + (t.drop (a + 1)).length ≤ sizeLine := sz (by rw [List.length_append, List.length_singleton]; omega)
  have cd1 : cutG t (some ((a : Int) + 1)) none = t.drop (a + 1) := cut_drop t (a + 1)
  refine ⟨some (.int (a : Nat)), some (.str [q]), some (.str B), _, ?_, d3⟩
  have h7 : mPar 7 8 (mCons (mCall m_next (mCons (mVar 1) (mCons (mBin oAdd (mB oLenA (mCons (mVar 3) mNil)) (mC (.int 1))) mNil))) (mCons (mBin oIxA (mC (.str (cs "()' -0a\\n\n\tez"))) (mCall m_next (mCons (mVar 1) (mCons (mC (.int 13)) mNil)))) mNil)) (sl17 c v (.str t) g lo x6 x7 x8 x9 none none none none none none none) (tpc ns st R) = .nx (sl17 c v (.str t) g lo x6 (some (.int (a : Nat))) (some (.str [q])) x9 none none none none none none none) (tpc ns (nx ns (nx ns st ((t.length : Int) + 1)).2 13).2 R) := by
    simp only [sl17, mPar_ev, mCons_ev, mCall_ev, mVar_ev, mBin_ev, mB_ev, mC_ev, mNil_ev, bind_ok, List.getElem?_cons_succ, List.getElem?_cons_zero, oLenA_str, zt, if_true, oAdd_int, n1, cs_al, n2, oIxA_str, za, atI_nat', sg, Option.map_some, optR_some, List.set_cons_succ, List.set_cons_zero]
  unfold pBend
  rw [mSeq_ev, h7]
  simp only [mSeq_ev, sl17, mSet_ev, mBin_ev, mTup_ev, mCons_ev, mNil_ev, mSlice_ev, mPart_ev, mNoPart_ev, mVar_ev, mC_ev, bind_ok, thenS_ok, List.getElem?_cons_succ, List.getElem?_cons_zero, intD_int, oSl, zt, if_true, cut_take, cut_drop, cd1, oAdd_int, oAdd_str, y1, y2, y3, y4, List.length_singleton, List.length_cons, List.length_nil, Nat.zero_add, sz (show 4 ≤ 1000 by omega), mCall_ev, n3, oIxA_tup, atI_nat', hB, optR_some, List.set_cons_succ, List.set_cons_zero]
  refine if_same (a := tolR (rdS B)) (b := tolR (rdS B)) ?_ (SameP_mono (n := 22) (by omega) (same_tol oB lB))
  simp only [mCons_ev, mCall_ev, mVar_ev, mNil_ev, bind_ok, List.getElem?_cons_succ, List.getElem?_cons_zero, asked_ok oB (show _ ≤ 100000 by omega), whole_ok oB (show _ ≤ 100000 by omega)]
noncomputable abbrev pFor5 : MS := (mFor (mRng1 (mCons (mC (.int 5)) mNil)) (gN 6) pBend)
theorem l_for5 {ns : List Int} {st : Tp} {c v g lo : D} {t : List Nat} {R : List Cell} (hs : okst st) (ht : okT t = true) (hl : t.length ≤ 900) : ∃ x6 x7 x8 x9 st', pFor5 (sl17 c v (.str t) g lo none none none none none none none none none none none) (tpc ns st R) =
    .nx (sl17 c v (.str t) g lo x6 x7 x8 x9 none none none none none none none) (tpc ns st' R) ∧ okst st' := by
  obtain ⟨sd', S', e, x6, x7, x8, x9, st', h1, h2, h3⟩ := forGo_rng (g := gN 6) (b := pBend) (lo := 0) (n := 5) (fun i sd S => ∃ x6 x7 x8 x9 st, sd = sl17 c v (.str t) g lo x6 x7 x8 x9 none none none none none none none ∧ S = tpc ns st R ∧ okst st)
    (fun i sd S hi ⟨x6, x7, x8, x9, st, h1, h2, h3⟩ => by
      subst h1 h2
      obtain ⟨x7', x8', x9', st', e, hs'⟩ := l_bend (ns := ns) (R := R) (c := c) (v := v) (g := g) (lo := lo) (x6 := some (.int (0 + (i : Nat)))) (x7 := x7) (x8 := x8) (x9 := x9) h3 ht hl
      exact ⟨_, _, _, _, rfl, e, _, _, _, _, _, rfl, rfl, hs'⟩) (sd := sl17 c v (.str t) g lo none none none none none none none none none none none) (S := tpc ns st R) ⟨_, _, _, _, st, rfl, rfl, hs⟩
  subst h1 h2
  refine ⟨x6, x7, x8, x9, st', ?_, h3⟩
  have c5 : c62 5 = true := by decide
  simp only [pFor5, mFor_ev, mRng1_ev, mCons_ev, mC_ev, mNil_ev, bind_ok, c5, if_true, thenS_ok]
  exact e
end K80

namespace K80
open PySem PySem.Spec PyProof.Rows L2 Fx
noncomputable abbrev pPow : MS := (mFor (mRng1 (mCons (mBin oAdd (mC (.int 39)) (mCall m_next (mCons (mVar 1) (mCons (mC (.int 3)) mNil)))) mNil)) (gN 12)
  (mSet 11 (mBin oMulL (mVar 11) (mC (.int 10)))))
theorem l_pow {ns : List Int} {st : Tp} {c v t g lo : D} {x6 x7 x8 x9 x10 : Option D} {R : List Cell} (hs : okst st) : ∃ (n : Nat) (x12 : Option D) (st' : Tp), pPow (sl17 c v t g lo x6 x7 x8 x9 x10 (some (.int 1)) none none none none none) (tpc ns st R) =
    .nx (sl17 c v t g lo x6 x7 x8 x9 x10 (some (.int (10 ^ n))) x12 none none none none) (tpc ns st' R) ∧ okst st' ∧ n ≤ 41 := by
  obtain ⟨a1, a2, a3⟩ := nx_ok (ns := ns) (many := 3) (by decide) hs
  have n1 := m_nx (ns := ns) (many := 3) hs (by decide) (by decide) R
  obtain ⟨j, hj⟩ := Int.eq_ofNat_of_zero_le a1
  rw [hj] at n1
  have e39 : (39 : Int) + (j : Nat) = ((39 + j : Nat) : Int) := by omega
  obtain ⟨sd', S', e, x12, h1, h2⟩ := forGo_rng (g := gN 12) (b := (mSet 11 (mBin oMulL (mVar 11) (mC (.int 10))))) (lo := 0) (n := 39 + j) (fun i sd S => ∃ x12, sd = sl17 c v t g lo x6 x7 x8 x9 x10 (some (.int (10 ^ i))) x12 none none none none ∧ S = tpc ns (nx ns st 3).2 R)
    (fun i sd S hi ⟨x12, h1, h2⟩ => by
      subst h1 h2
      have cm : ∀ k : Int, cMul k 10 = true := fun k => by unfold cMul c64; simp
      refine ⟨_, _, _, _, rfl, ?_, some (.int (0 + (i : Nat))), rfl, rfl⟩
      simp only [sl17, mSet_ev, mBin_ev, mVar_ev, mC_ev, bind_ok, thenS_ok, List.getElem?_cons_succ, List.getElem?_cons_zero, oMulL_int, cm, if_true, List.set_cons_succ, List.set_cons_zero, Int.pow_succ]) (sd := sl17 c v t g lo x6 x7 x8 x9 x10 (some (.int 1)) none none none none none) (S := tpc ns (nx ns st 3).2 R) ⟨none, rfl, rfl⟩
  subst h1 h2
  refine ⟨39 + j, x12, _, ?_, a3, by omega⟩
  have c39 : c62 ((39 + j : Nat) : Int) = true := by unfold c62; rw [Bool.and_eq_true]; simp only [decide_eq_true_eq]; omega
  simp only [pPow, mFor_ev, mRng1_ev, mCons_ev, mBin_ev, mC_ev, mCall_ev, mVar_ev, mNil_ev, bind_ok, List.getElem?_cons_succ, List.getElem?_cons_zero, n1, oAdd_int, e39, c39, if_true, Int.toNat_natCast, thenS_ok]
  exact e
noncomputable abbrev pSub : MS := (mSet 11 (mBin oSub (mVar 11) (mCall m_next (mCons (mVar 1) (mCons (mC (.int 2)) mNil)))))
theorem l_sub {ns : List Int} {st : Tp} {c v t g lo : D} {x6 x7 x8 x9 x10 x12 : Option D} {R : List Cell} {n : Nat} (hs : okst st) (hn : n ≤ 41) : ∃ (i : Int) (st' : Tp), pSub (sl17 c v t g lo x6 x7 x8 x9 x10 (some (.int (10 ^ n))) x12 none none none none) (tpc ns st R) =
    .nx (sl17 c v t g lo x6 x7 x8 x9 x10 (some (.int i)) x12 none none none none) (tpc ns st' R) ∧ okst st' ∧ i.natAbs < 10 ^ 42 := by
  obtain ⟨a1, a2, a3⟩ := nx_ok (ns := ns) (many := 2) (by decide) hs
  have n1 := m_nx (ns := ns) (many := 2) hs (by decide) (by decide) R
  refine ⟨10 ^ n - (nx ns st 2).1, _, ?_, a3, ?_⟩
  · simp only [pSub, sl17, mSet_ev, mBin_ev, mVar_ev, mC_ev, mCall_ev, mCons_ev, mNil_ev, bind_ok, thenS_ok, List.getElem?_cons_succ, List.getElem?_cons_zero, n1, oSub, oInt_ev, if_true, List.set_cons_succ, List.set_cons_zero]
  · have h1 : (10 : Nat) ^ n ≤ 10 ^ 41 := Nat.pow_le_pow_right (by decide) hn
    have h2 : ((10 : Int) ^ n) = ((10 ^ n : Nat) : Int) := by norm_cast
    have h3 : (10 : Nat) ^ 42 = 10 ^ 41 * 10 := Nat.pow_succ 10 41
    have h4 : 1 ≤ (10 : Nat) ^ n := Nat.pow_pos (by decide)
    rw [h2]
    generalize (10 : Nat) ^ n = m at h1 h4
    rw [h3]
    have h5 : 1 ≤ (10 : Nat) ^ 41 := Nat.pow_pos (by decide)
    generalize (10 : Nat) ^ 41 = q at h1 h5
    omega
noncomputable abbrev pDeep : MS := (mFor (mRng1 (mCons (mBin oAdd (mC (.int 18)) (mCall m_next (mCons (mVar 1) (mCons (mC (.int 4)) mNil)))) mNil)) (gN 12)
  (mSet 10 (mIfE (mTst (mBin oEq (mCall m_next (mCons (mVar 1) (mCons (mC (.int 2)) mNil))) (mC (.int 0)))) (mTup (mCons (mVar 10) (mCons (mC (.int 1)) mNil))) (mTup (mCons (mVar 10) mNil)))))
theorem l_deep {ns : List Int} {st : Tp} {c v t g lo : D} {x6 x7 x8 x9 x11 x12 : Option D} {R : List Cell} (hs : okst st) : ∃ (r : List Bool) (x12' : Option D) (st' : Tp), pDeep (sl17 c v t g lo x6 x7 x8 x9 (some (.tup [])) x11 x12 none none none none) (tpc ns st R) =
    .nx (sl17 c v t g lo x6 x7 x8 x9 (some (chainV r)) x11 x12' none none none none) (tpc ns st' R) ∧ okst st' ∧ r.length ≤ 21 := by
  obtain ⟨a1, a2, a3⟩ := nx_ok (ns := ns) (many := 4) (by decide) hs
  have n1 := m_nx (ns := ns) (many := 4) hs (by decide) (by decide) R
  obtain ⟨j, hj⟩ := Int.eq_ofNat_of_zero_le a1
  rw [hj] at n1
  have e18 : (18 : Int) + (j : Nat) = ((18 + j : Nat) : Int) := by omega
  obtain ⟨sd', S', e, r, x12', st', hr, h1, h2, h3⟩ := forGo_rng (g := gN 12) (b := (mSet 10 (mIfE (mTst (mBin oEq (mCall m_next (mCons (mVar 1) (mCons (mC (.int 2)) mNil))) (mC (.int 0)))) (mTup (mCons (mVar 10) (mCons (mC (.int 1)) mNil))) (mTup (mCons (mVar 10) mNil))))) (lo := 0) (n := 18 + j) (fun i sd S => ∃ (r : List Bool) (x12 : Option D) (st : Tp), r.length = i ∧ sd = sl17 c v t g lo x6 x7 x8 x9 (some (chainV r)) x11 x12 none none none none ∧ S = tpc ns st R ∧ okst st)
    (fun i sd S hi ⟨r, x12, st, hr, h1, h2, h3⟩ => by
      subst h1 h2
      obtain ⟨b1, b2, b3⟩ := nx_ok (ns := ns) (many := 2) (by decide) h3
      have n2 := m_nx (ns := ns) (many := 2) h3 (by decide) (by decide) R
      have z1 : 1 ≤ sizeLine := sz (by omega)
      by_cases h0 : (nx ns st 2).1 = 0
      · have hb0 : ((nx ns st 2).1 == 0) = true := by rw [h0]; rfl
        refine ⟨_, _, _, _, rfl, ?_, true :: r, some (.int (0 + (i : Nat))), _, by simp [hr], rfl, rfl, b3⟩
        simp only [sl17, mSet_ev, mIfE_ev, mTst_ev, mBin_ev, mVar_ev, mC_ev, mCall_ev, mCons_ev, mNil_ev, mTup_ev, gN_ev, bind_ok, thenS_ok, List.getElem?_cons_succ, List.getElem?_cons_zero, List.set_cons_succ, List.set_cons_zero, n2, oEq_int, hb0, blD_bl, optR_some, if_true, List.length_cons, List.length_nil, Nat.zero_add, z2, show (1 + 1 ≤ sizeLine) from z2]
        rfl
      · have hb0 : ((nx ns st 2).1 == 0) = false := by simp [h0]
        refine ⟨_, _, _, _, rfl, ?_, false :: r, some (.int (0 + (i : Nat))), _, by simp [hr], rfl, rfl, b3⟩
        simp only [sl17, mSet_ev, mIfE_ev, mTst_ev, mBin_ev, mVar_ev, mC_ev, mCall_ev, mCons_ev, mNil_ev, mTup_ev, gN_ev, bind_ok, thenS_ok, List.getElem?_cons_succ, List.getElem?_cons_zero, List.set_cons_succ, List.set_cons_zero, n2, oEq_int, hb0, blD_bl, optR_some, Bool.false_eq_true, if_false, List.length_cons, List.length_nil, Nat.zero_add, z1, if_true]
        rfl) (sd := sl17 c v t g lo x6 x7 x8 x9 (some (.tup [])) x11 x12 none none none none) (S := tpc ns (nx ns st 4).2 R) ⟨[], x12, _, rfl, rfl, rfl, a3⟩
  subst h1 h2
  refine ⟨r, x12', st', ?_, h3, by omega⟩
  have c18 : c62 ((18 + j : Nat) : Int) = true := by unfold c62; rw [Bool.and_eq_true]; simp only [decide_eq_true_eq]; omega
  simp only [pDeep, mFor_ev, mRng1_ev, mCons_ev, mBin_ev, mC_ev, mCall_ev, mVar_ev, mNil_ev, bind_ok, List.getElem?_cons_succ, List.getElem?_cons_zero, n1, oAdd_int, e18, c18, if_true, Int.toNat_natCast, thenS_ok]
  exact e
noncomputable abbrev pOneB : MS := (mSeq (mSet 14 (mCall (m__law_show 23) (mCons (mVar 13) (mCons (mC (.str (cs " "))) mNil))))
    (mIf (mNot (mTru (mCall (m_same 30) (mCons (mLst (mCons (mCall m__law_asked (mCons (mVar 14) mNil)) (mCons (mCall m_is_shown (mCons (mVar 13) mNil)) mNil))) (mCons (mLst (mCons (mCall m__law_whole (mCons (mVar 14) mNil)) (mCons (mBin oEq (mBin oIxA (mCall m__law_whole (mCons (mVar 14) mNil)) (mC (.int 0))) (mC (.str (cs "yes")))) mNil))) mNil)))))
    (mRet (mC (.bl false)))
    mNext))
theorem yes_eq (t : List Nat) (S : List Cell) : (oIxA (tolR (rdS t)) (.int 0) S).bind (fun d S1 => oEq d (.str (cs "yes")) S1) = .ok (.bl (yesB (rdS t))) S := by
  cases rdS t with
  | yes d b =>
    unfold tolR
    rw [oIxA_tup]
    simp [eq_str oyes oyes, yesB]
  | no p =>
    unfold tolR
    rw [oIxA_tup]
    have : (cs "no" == cs "yes") = false := by decide +kernel
    simp [eq_str ono oyes, yesB, this]
theorem l_oneB {c v t g lo d : D} {x6 x7 x8 x9 x10 x11 x12 x14 : Option D} {S : List Cell} (hj : Jd d) : ∃ x14' L, pOneB (sl17 c v t g lo x6 x7 x8 x9 x10 x11 x12 (some d) x14 none none) S =
    .nx (sl17 c v t g lo x6 x7 x8 x9 x10 x11 x12 (some d) x14' none none) (S ++ L) := by
  obtain ⟨hv, hl, hy⟩ := hj
  have o1 : okT (shwN [32] 23 d) = true := shw_okT (by decide) hv
  refine ⟨some (.str (shwN [32] 23 d)), [.lst [tolR (rdS (shwN [32] 23 d)), .bl (isT 20 d)], .lst [tolR (rdS (shwN [32] 23 d)), .bl (isT 20 d)]], ?_⟩
  have h1 : mSet 14 (mCall (m__law_show 23) (mCons (mVar 13) (mCons (mC (.str (cs " "))) mNil))) (sl17 c v t g lo x6 x7 x8 x9 x10 x11 x12 (some d) x14 none none) S = .nx (sl17 c v t g lo x6 x7 x8 x9 x10 x11 x12 (some d) (some (.str (shwN [32] 23 d))) none none) S := by
    simp only [sl17, mSet_ev, mCall_ev, mCons_ev, mVar_ev, mC_ev, mNil_ev, bind_ok, thenS_ok, List.getElem?_cons_succ, List.getElem?_cons_zero, css, lshow_ok (S := S) (g := [32]) hv (show (shwN [32] 23 d).length ≤ 10000 by omega) (by decide), List.set_cons_succ, List.set_cons_zero]
  unfold pOneB
  rw [mSeq_ev, h1]
  refine if_same (two_ev (xs := [tolR (rdS (shwN [32] 23 d)), .bl (isT 20 d)]) (ys := [tolR (rdS (shwN [32] 23 d)), .bl (isT 20 d)]) ?_ ?_ (by simp) (by simp)) (SameP_mono (n := 23) (by omega) (same_two (by simp) ⟨same_tol o1 (by omega), rfl, trivial⟩))
  · simp only [mCons_ev, mVar_ev, mCall_ev, mNil_ev, bind_ok, List.getElem?_cons_succ, List.getElem?_cons_zero, asked_ok o1 (show (shwN [32] 23 d).length ≤ 100000 by omega), is_ok (okV_vD hv)]
  · have ye := yes_eq (shwN [32] 23 d) (S ++ [.lst [tolR (rdS (shwN [32] 23 d)), .bl (isT 20 d)]])
    rw [hy] at ye
    simp only [mCons_ev, mVar_ev, mCall_ev, mNil_ev, mBin_ev, mC_ev, bind_ok, List.getElem?_cons_succ, List.getElem?_cons_zero, whole_ok o1 (show (shwN [32] 23 d).length ≤ 100000 by omega), ye]
noncomputable abbrev pOne : MS := (mFor (mSeqI (mTup (mCons (mVar 10) (mCons (mVar 11) (mCons (mNeg (mVar 11)) (mCons (mTup (mCons (mC (.int 1)) (mCons (mVar 11) mNil))) mNil)))))) (gN 13) pOneB)
theorem l_one {ns : List Int} {st : Tp} {c v t g lo : D} {x6 x7 x8 x9 x12 : Option D} {R : List Cell} {r : List Bool} {i : Int} (hr : r.length ≤ 21) (hi : i.natAbs < 10 ^ 42) : ∃ x13 x14 R', pOne (sl17 c v t g lo x6 x7 x8 x9 (some (chainV r)) (some (.int i)) x12 none none none none) (tpc ns st R) =
    .nx (sl17 c v t g lo x6 x7 x8 x9 (some (chainV r)) (some (.int i)) x12 x13 x14 none none) (tpc ns st R') := by
  have hm : (-i).natAbs < 10 ^ 42 := by rw [Int.natAbs_neg]; exact hi
  have hj : ∀ d ∈ [chainV r, .int i, .int (-i), .tup [.int 1, .int i]], Jd d := fun d hd => by
    simp only [List.mem_cons, List.not_mem_nil, or_false] at hd
    rcases hd with rfl | rfl | rfl | rfl
    · exact j_chain hr
    · exact j_int hi
    · exact j_int hm
    · exact j_pair hi
  obtain ⟨sd', S', e, x13, x14, R', h1, h2⟩ := forGo_ix (g := gN 13) (b := pOneB) (xs := [chainV r, .int i, .int (-i), .tup [.int 1, .int i]]) (gd := none) (fun k sd S => ∃ x13 x14 R', sd = sl17 c v t g lo x6 x7 x8 x9 (some (chainV r)) (some (.int i)) x12 x13 x14 none none ∧ S = tpc ns st R') (fun _ _ _ _ => trivial)
    (fun k x sd S hx ⟨x13, x14, R', h1, h2⟩ => by
      subst h1 h2
      obtain ⟨x14', L, e⟩ := l_oneB (c := c) (v := v) (t := t) (g := g) (lo := lo) (x6 := x6) (x7 := x7) (x8 := x8) (x9 := x9) (x10 := some (chainV r)) (x11 := some (.int i)) (x12 := x12) (x14 := x14) (S := tpc ns st R') (hj x (List.mem_of_getElem? hx))
      exact ⟨_, _, _, _, rfl, e, some x, x14', R' ++ L, rfl, rfl⟩) (sd := sl17 c v t g lo x6 x7 x8 x9 (some (chainV r)) (some (.int i)) x12 none none none none) (S := tpc ns st R) ⟨none, none, R, rfl, rfl⟩
  subst h1 h2
  refine ⟨x13, x14, R', ?_⟩
  simp only [pOne, mFor_ev, mSeqI_ev, mTup_ev, mCons_ev, mVar_ev, mNeg_ev, mC_ev, mNil_ev, bind_ok, List.getElem?_cons_succ, List.getElem?_cons_zero, List.length_cons, List.length_nil, Nat.zero_add, z2, show (1 + 1 ≤ sizeLine) from z2, if_true, sz (show 4 ≤ 1000 by omega), sz (show 1 + 1 + 1 + 1 ≤ 1000 by omega), thenS_ok]
  exact e
/-! #### odd ones -/
noncomputable abbrev pOdd : MS := (mSet 15 (mLst (mCons (mC (.int 1)) (mCons (mC (.str (cs "a"))) (mCons (mC .non) (mCons (mC (.bl true)) (mCons (mTup mNil) (mCons (mTup (mCons (mC (.str (cs "a"))) (mCons (mTup (mCons (mC (.int 1)) (mCons (mC .non) mNil))) mNil))) (mCons (mLst (mCons (mC (.int 1)) mNil)) (mCons (mTup (mCons (mC (.str (cs "a"))) (mCons (mLst (mCons (mC (.int 2)) mNil)) mNil))) (mCons (mDict [((mC (.str (cs "a"))), (mC (.int 1)))]) (mCons (mTup (mCons (mC .non) (mCons (mLst mNil) mNil))) mNil))))))))))))
def oddL (n : Nat) : List D := [.int 1, .str [97], .non, .bl true, .tup [], .tup [.str [97], .tup [.int 1, .non]], .loc n, .tup [.str [97], .loc (n + 1)], .loc (n + 2), .tup [.non, .loc (n + 3)]]
def kO : List (Key × D) := [(.inr (stS [97]), .int 1)]
def oddC (n : Nat) : List Cell := [.lst [.int 1], .lst [.int 2], .dic kO, .lst [], .lst (oddL n)]
theorem dO_ev (sd : Sl) (S : List Cell) : mDict [((mC (.str [97])), (mC (.int 1)))] sd S = .ok (.loc S.length) (S ++ [.dic kO]) := (rfl)
theorem l_odd {c v t g lo : D} {x6 x7 x8 x9 x10 x11 x12 x13 x14 : Option D} (S : List Cell) : pOdd (sl17 c v t g lo x6 x7 x8 x9 x10 x11 x12 x13 x14 none none) S =
    .nx (sl17 c v t g lo x6 x7 x8 x9 x10 x11 x12 x13 x14 (some (.loc (S.length + 4))) none) (S ++ oddC S.length) := by
  have z0 : 0 ≤ sizeLine := Nat.zero_le _
  have z1 : 1 ≤ sizeLine := sz (by omega)
  have z10 : 10 ≤ sizeLine := sz (by omega)
  simp only [pOdd, mSet_ev, mLst_ev, mTup_ev, mCons_ev, mC_ev, mNil_ev, dO_ev, bind_ok, thenS_ok, List.length_cons, List.length_nil, Nat.zero_add, z0, z1, z2, show (1 + 1 ≤ sizeLine) from z2, z10, if_true, List.length_append, List.append_assoc, List.cons_append, List.nil_append, List.set_cons_succ, List.set_cons_zero, csa]
  simp [oddC, oddL, z10]
theorem odd_vD {S R : List Cell} : ∀ d ∈ oddL S.length, vD (S ++ (oddC S.length ++ R)) 20 d := fun d hd => by
  have g0 : (S ++ (oddC S.length ++ R))[S.length]? = some (.lst [.int 1]) := by rw [app_get0]; rfl
  have g1 : (S ++ (oddC S.length ++ R))[S.length + 1]? = some (.lst [.int 2]) := by rw [app_get]; rfl
  have g2 : (S ++ (oddC S.length ++ R))[S.length + 2]? = some (.dic kO) := by rw [app_get]; rfl
  have g3 : (S ++ (oddC S.length ++ R))[S.length + 3]? = some (.lst []) := by rw [app_get]; rfl
  generalize S ++ (oddC S.length ++ R) = Q at g0 g1 g2 g3
  simp only [oddL, List.mem_cons, List.not_mem_nil, or_false] at hd
  have e20 : (20 : Nat) = 19 + 1 := rfl
  have e19 : (19 : Nat) = 18 + 1 := rfl
  rcases hd with rfl | rfl | rfl | rfl | rfl | rfl | rfl | rfl | rfl | rfl
  · trivial
  · trivial
  · trivial
  · trivial
  · exact ⟨by simp, fun x hx => by cases hx⟩
  · refine ⟨by simp, fun x hx => ?_⟩
    simp only [List.mem_cons, List.not_mem_nil, or_false] at hx
    rcases hx with rfl | rfl
    · trivial
    · refine ⟨by simp, fun x hx => ?_⟩
      simp only [List.mem_cons, List.not_mem_nil, or_false] at hx
      rcases hx with rfl | rfl <;> trivial
  · exact .inl ⟨_, g0⟩
  · refine ⟨by simp, fun x hx => ?_⟩
    simp only [List.mem_cons, List.not_mem_nil, or_false] at hx
    rcases hx with rfl | rfl
    · trivial
    · exact .inl ⟨_, g1⟩
  · exact .inr ⟨_, g2⟩
  · refine ⟨by simp, fun x hx => ?_⟩
    simp only [List.mem_cons, List.not_mem_nil, or_false] at hx
    rcases hx with rfl | rfl
    · trivial
    · exact .inl ⟨_, g3⟩
/-! #### a word -/
def alpha2 : List Nat := [97, 39, 92, 10, 9, 32, 41]
theorem cs_al2 : cs "a'\\\n\t )" = alpha2 := by decide +kernel
noncomputable abbrev pWord : MS := (mSet 16 (mJoin (mC (.str (cs ""))) (mFresh (mLc (mRng1 (mCons (mCall m_next (mCons (mVar 1) (mCons (mC (.int 6)) mNil))) mNil)) [12] (gN 12) mYes (mBin oIxA (mC (.str (cs "a'\\\n\t )"))) (mCall m_next (mCons (mVar 1) (mCons (mC (.int 7)) mNil))))))))
def drawW (ns : List Int) (st : Tp) : D × Tp := (.str [alpha2.getD (nx ns st 7).1.toNat 0], (nx ns st 7).2)
def isSg (d : D) : Prop := ∃ c, d = .str [c] ∧ c < 0x110000
theorem drawW_ok {ns : List Int} (st : Tp) (h : okst st) : isSg (drawW ns st).1 ∧ okst (drawW ns st).2 := by
  obtain ⟨a1, a2, a3⟩ := nx_ok (ns := ns) (many := 7) (by decide) h
  refine ⟨⟨_, rfl, ?_⟩, a3⟩
  have hl : (nx ns st 7).1.toNat < alpha2.length := by show _ < 7; omega
  rw [List.getD_eq_getElem?_getD, List.getElem?_eq_getElem hl, Option.getD_some]
  have : ∀ c ∈ alpha2, c < 0x110000 := by decide
  exact this _ (List.getElem_mem hl)
theorem sg_list : ∀ l : List D, (∀ d ∈ l, isSg d) → ∃ ys : List (List Nat), l = ys.map D.str ∧ ys.flatten.length = l.length ∧ (ys.map List.length).sum = l.length ∧ okT ys.flatten = true
  | [], _ => ⟨[], rfl, rfl, rfl, rfl⟩
  | d :: l, h => by
    obtain ⟨c, rfl, hc⟩ := h d (by simp)
    obtain ⟨ys, h1, h2, h3, h4⟩ := sg_list l (fun x hx => h x (by simp [hx]))
    refine ⟨[c] :: ys, by rw [h1]; rfl, by simp [h2] <;> omega, by simp [h3] <;> omega, ?_⟩
    rw [List.flatten_cons]
    exact okT_app (okT_of fun x hx => by rw [List.mem_singleton.mp hx]; exact hc) h4
theorem l_word {ns : List Int} {st : Tp} {c v t g lo : D} {x6 x7 x8 x9 x10 x11 x12 x13 x14 x15 : Option D} {R : List Cell} (hs : okst st) : ∃ (w : List Nat) (st' : Tp) (L : List Cell), pWord (sl17 c v t g lo x6 x7 x8 x9 x10 x11 x12 x13 x14 x15 none) (tpc ns st R) =
    .nx (sl17 c v t g lo x6 x7 x8 x9 x10 x11 x12 x13 x14 x15 (some (.str w))) (tpc ns st' (R ++ L)) ∧ okT w = true ∧ w.length ≤ 6 := by
  obtain ⟨a1, a2, a3⟩ := nx_ok (ns := ns) (many := 6) (by decide) hs
  have n1 := m_nx (ns := ns) (many := 6) hs (by decide) (by decide) R
  obtain ⟨m, hm⟩ := Int.eq_ofNat_of_zero_le a1
  rw [hm] at n1
  have cm : c62 (m : Int) = true := by unfold c62; rw [Bool.and_eq_true]; simp only [decide_eq_true_eq]; omega
  have za : alpha2.length ≤ sizeLine := sz (by decide)
  have lc := lc_draw (it := ⟨rngD 0 m, none⟩) rfl (ws := [12]) (g := gN 12) (e := (mBin oIxA (mC (.str (cs "a'\\\n\t )"))) (mCall m_next (mCons (mVar 1) (mCons (mC (.int 7)) mNil))))) (sd := sl17 c v t g lo x6 x7 x8 x9 x10 x11 x12 x13 x14 x15 none) (ns := ns) (rest := R) (f := drawW ns) (fun x st' hs' => ⟨_, rfl, by
    obtain ⟨b1, b2, b3⟩ := nx_ok (ns := ns) (many := 7) (by decide) hs'
    have n2 := m_nx (ns := ns) (many := 7) hs' (by decide) (by decide) R
    obtain ⟨j, hj⟩ := Int.eq_ofNat_of_zero_le b1
    rw [hj] at n2
    have hl : j < alpha2.length := by show _ < 7; omega
    have hg : alpha2[j]? = some (alpha2.getD (nx ns st' 7).1.toNat 0) := by
      rw [hj, Int.toNat_natCast, List.getD_eq_getElem?_getD, List.getElem?_eq_getElem hl, Option.getD_some]
    simp only [sl17, wipeD, List.set_cons_succ, List.set_cons_zero, mBin_ev, mC_ev, mCall_ev, mCons_ev, mVar_ev, mNil_ev, bind_ok, List.getElem?_cons_zero, List.getElem?_cons_succ, n2, cs_al2, oIxA_str, za, if_true, atI_nat', hg, Option.map_some, optR_some]
    rfl⟩) (fun st' hs' => (drawW_ok st' hs').2) (rngD 0 m) [] _ a3 (by rw [rngD_length]; simp; omega)
  rw [List.nil_append, rngD_length] at lc
  obtain ⟨l1, l2, l3⟩ := drawL_ok (drawW_ok (ns := ns)) m _ a3
  obtain ⟨ys, y1, y2, y3, y4⟩ := sg_list _ l2
  rw [l1] at y2 y3
  rw [y1] at lc
  refine ⟨ys.flatten, (drawL (drawW ns) m (nx ns st 6).2).2, [.lst (ys.map D.str)], ?_, y4, by omega⟩
  have cl : (tpc ns (drawL (drawW ns) m (nx ns st 6).2).2 R ++ [.lst (ys.map D.str)])[(tpc ns (drawL (drawW ns) m (nx ns st 6).2).2 R).length]? = some (.lst (ys.map D.str)) := app_last
  have hsum : (ys.map List.length).sum + ys.length * 0 ≤ 16777216 := by omega
  have h1 : mJoin (mC (.str (cs ""))) (mFresh (mLc (mRng1 (mCons (mCall m_next (mCons (mVar 1) (mCons (mC (.int 6)) mNil))) mNil)) [12] (gN 12) mYes (mBin oIxA (mC (.str (cs "a'\\\n\t )"))) (mCall m_next (mCons (mVar 1) (mCons (mC (.int 7)) mNil)))))) (sl17 c v t g lo x6 x7 x8 x9 x10 x11 x12 x13 x14 x15 none) (tpc ns st R) = .ok (.str ys.flatten) (tpc ns (drawL (drawW ns) m (nx ns st 6).2).2 R ++ [.lst (ys.map D.str)]) := by
    rw [mJoin_ev]
    simp only [mC_ev, bind_ok, mFresh_ev, mLc_ev, mRng1_ev, mCons_ev, mCall_ev, mVar_ev, mNil_ev, List.getElem?_cons_zero, List.getElem?_cons_succ, n1, cm, if_true, Int.toNat_natCast, lc, seqD_loc, cellL_ev, cl, Option.bind_some, strsD_map, cse, List.length_nil, hsum, joinS_eq, jL_flat]
  unfold pWord
  rw [mSet_ev, h1]
  rfl
/-! #### the end -/
theorem app_old {S l : List Cell} {n : Nat} {c : Cell} (h : S[n]? = some c) : (S ++ l)[n]? = some c := by
  rw [List.getElem?_append_left (List.getElem?_eq_some_iff.mp h).1]
  exact h
/-- [a] * m + [b] * n -/
theorem add_rep2 {sd : Sl} {S : List Cell} {a b : D} (m n : Nat) (hm : m ≤ 100) (hn : n ≤ 100) :
    mBin oAdd (mBin oMulL (mLst (mCons (mC a) mNil)) (mC (.int (m : Nat)))) (mBin oMulL (mLst (mCons (mC b) mNil)) (mC (.int (n : Nat)))) sd S =
      .ok (.loc (S.length + 4)) (S ++ [Cell.lst [a], Cell.lst (List.replicate m a), Cell.lst [b], Cell.lst (List.replicate n b), Cell.lst (List.replicate m a ++ List.replicate n b)]) := by
  have e : ∀ (b : D) (n : Nat), (List.replicate n [b]).flatten = List.replicate n b := by
    intro b n
    induction n with
    | zero => rfl
    | succ n ih => rw [List.replicate_succ, List.flatten_cons, ih]; rfl
  have z1 : 1 ≤ sizeLine := sz (by omega)
  have zm : [a].length * m ≤ sizeLine := sz (by rw [List.length_singleton]; omega)
  have zn : [b].length * n ≤ sizeLine := sz (by rw [List.length_singleton]; omega)
  have z3 : m + n ≤ sizeLine := sz (by omega)
  have cm : (0 : Int) ≤ (m : Nat) := by omega
  have cn : (0 : Int) ≤ (n : Nat) := by omega
  have p1 : ∀ (S : List Cell) (a : D) (m : Nat), [a].length * m ≤ sizeLine → m ≤ 100 → mBin oMulL (mLst (mCons (mC a) mNil)) (mC (.int (m : Nat))) sd S = .ok (.loc (S.length + 1)) (S ++ [Cell.lst [a], Cell.lst (List.replicate m a)]) := fun S a m zm hm => by
    simp only [mBin_ev, mLst_ev, mC_ev, mCons_ev, mNil_ev, bind_ok, List.length_cons, List.length_nil, Nat.zero_add, z1, if_true, oMulL_loc, mlst_ev, app_get0, List.getElem?_cons_zero, Int.toNat_natCast]
    rw [if_pos ⟨by omega, by omega, zm⟩]
    simp only [e, List.append_assoc, List.cons_append, List.nil_append, List.length_append, List.length_cons, List.length_nil]
  rw [mBin_ev, p1 S a m zm hm, bind_ok, p1 _ b n zn hn, bind_ok]
  have g1 : (S ++ [Cell.lst [a], Cell.lst (List.replicate m a)] ++ [Cell.lst [b], Cell.lst (List.replicate n b)])[S.length + 1]? = some (Cell.lst (List.replicate m a)) := by
    rw [List.append_assoc, app_get]; rfl
  have g2 : (S ++ [Cell.lst [a], Cell.lst (List.replicate m a)] ++ [Cell.lst [b], Cell.lst (List.replicate n b)])[(S ++ [Cell.lst [a], Cell.lst (List.replicate m a)]).length + 1]? = some (Cell.lst (List.replicate n b)) := by
    rw [app_get]; rfl
  simp only [oAdd_loc, mlst_ev, g1, g2, List.length_replicate, z3, if_true]
  simp
noncomputable abbrev pEnd : MS := (mRet (mCall (m_same 30) (mCons (mLst (mCons (mFresh (mLc (mSeqI (mVar 15)) [13] (gN 13) mYes (mCall m_is_shown (mCons (mVar 13) mNil)))) (mCons (mCall m_quoted (mCons (mVar 16) mNil)) (mCons (mCall m__law_asked (mCons (mCall m_quoted (mCons (mVar 16) mNil)) mNil)) mNil)))) (mCons (mLst (mCons (mBin oAdd (mBin oMulL (mLst (mCons (mC (.bl true)) mNil)) (mC (.int 6))) (mBin oMulL (mLst (mCons (mC (.bl false)) mNil)) (mC (.int 4)))) (mCons (mCall m__law_quoted (mCons (mVar 16) mNil)) (mCons (mTup (mCons (mC (.str (cs "yes"))) (mCons (mVar 16) mNil))) mNil)))) mNil))))
theorem cons_ok {a : ME} {r : MA} {sd : Sl} {S S1 S2 : List Cell} {d : D} {ds : List D} (h1 : a sd S = .ok d S1) (h2 : r sd S1 = .ok ds S2) : mCons a r sd S = .ok (d :: ds) S2 := by
  rw [mCons_ev, h1, bind_ok, h2]; rfl
theorem l_end {c v t g lo : D} {x6 x7 x8 x9 x10 x11 x12 x13 x14 : Option D} {Q L : List Cell} {w : List Nat} (hw : okT w = true) (hl : w.length ≤ 6) : ∃ S2, pEnd (sl17 c v t g lo x6 x7 x8 x9 x10 x11 x12 x13 x14 (some (.loc (Q.length + 4))) (some (.str w))) (Q ++ (oddC Q.length ++ L)) = .rt (.bl true) S2 := by
  generalize hsd : sl17 c v t g lo x6 x7 x8 x9 x10 x11 x12 x13 x14 (some (.loc (Q.length + 4))) (some (.str w)) = sd
  have s15 : sd[15]? = some (some (.loc (Q.length + 4))) := by rw [← hsd]; rfl
  have s16 : sd[16]? = some (some (.str w)) := by rw [← hsd]; rfl
  have hlen : sd.length = 17 := by rw [← hsd]; rfl
  have vd := odd_vD (S := Q) (R := L)
  have g4 : (Q ++ (oddC Q.length ++ L))[Q.length + 4]? = some (Cell.lst (oddL Q.length)) := by rw [app_get]; rfl
  have g4 : cellL (Q ++ (oddC Q.length ++ L)) (Q.length + 4) = some (oddL Q.length) := by rw [cellL_ev, g4]
  have eT : (oddL Q.length).map (fun x => D.bl (isT 20 x)) = List.replicate 6 (.bl true) ++ List.replicate 4 (.bl false) := by
    simp only [oddL, List.map_cons, List.map_nil]
    have e1 : isT 20 (.int 1) = true := by rw [isT_int]; decide +kernel
    have e2 : isT 20 (.tup [.str [97], .tup [.int 1, .non]]) = true := by
      show [D.str [97], .tup [.int 1, .non]].all (isT 19) = true
      have : isT 19 (.tup [.int 1, .non]) = true := by
        show [D.int 1, .non].all (isT 18) = true
        have : isT 18 (.int 1) = true := by rw [isT_int]; decide +kernel
        simp only [List.all_cons, List.all_nil, this]
        rfl
      simp only [List.all_cons, List.all_nil, this]
      rfl
    rw [e1, e2]
    rfl
  generalize Q ++ (oddC Q.length ++ L) = S at vd g4
  have h3 : (wipeD sd [13]).length = 17 := by simp [wipeD, hlen]
  have lc := lcGo_map (it := ⟨oddL Q.length, some (Q.length + 4)⟩) (ws := [13]) (g := gN 13) (t := mYes) (e := mCall m_is_shown (mCons (mVar 13) mNil)) (sd := sd) (S := S) (fun x => .bl (isT 20 x)) g4 (oddL Q.length) [] (fun x hm => ⟨_, rfl, rfl, by
    rw [mCall_ev, mCons_ev, mVar_ev, List.getElem?_set_self (by rw [h3]; omega)]
    simp only [bind_ok, mNil_ev, is_ok (vd x hm)]⟩) (by show 10 ≤ sizeLine; exact sz (by omega))
  rw [List.nil_append, eT] at lc
  have z2 := z2
  have z3 : 3 ≤ sizeLine := sz (by omega)
  have fl := flat_len w
  have oq : okT (quoteT w) = true := okT_esc hw
  have ql : (quoteT w).length ≤ 20 := by
    unfold quoteT
    rw [List.length_append, List.length_append, List.length_singleton]
    omega
  obtain ⟨b, hb⟩ := rdS_shw g32 nb nb (n := 1) (d := .str w) (by omega) ⟨hw, by omega⟩
  rw [List.nil_append, List.append_nil] at hb
  have hb : rdS (quoteT w) = .yes (.str w) b := hb
  have q1 : ∀ S, mCall m_quoted (mCons (mVar 16) mNil) sd S = .ok (.str (quoteT w)) S := fun S => by
    simp only [mCall_ev, mCons_ev, mVar_ev, s16, mNil_ev, bind_ok, m_quoted_ok (S := S) (show w.length ≤ 10000 by omega)]
  have q2 : ∀ S, mCall m__law_asked (mCons (mCall m_quoted (mCons (mVar 16) mNil)) mNil) sd S = .ok (.tup [.str (cs "yes"), .str w]) S := fun S => by
    have := q1 S
    rw [mCall_ev, mCons_ev, this]
    simp only [bind_ok, mNil_ev, asked_ok oq (show (quoteT w).length ≤ 100000 by omega), hb, tolR]
  -- the first list
  have f1 : mFresh (mLc (mSeqI (mVar 15)) [13] (gN 13) mYes (mCall m_is_shown (mCons (mVar 13) mNil))) sd S = .ok (.loc S.length) (S ++ [Cell.lst (List.replicate 6 (.bl true) ++ List.replicate 4 (.bl false))]) := by
    rw [mFresh_ev, mLc_ev, mSeqI_ev, mVar_ev, s15]
    simp only [bind_ok, g4, lc]
  have A : mLst (mCons (mFresh (mLc (mSeqI (mVar 15)) [13] (gN 13) mYes (mCall m_is_shown (mCons (mVar 13) mNil)))) (mCons (mCall m_quoted (mCons (mVar 16) mNil)) (mCons (mCall m__law_asked (mCons (mCall m_quoted (mCons (mVar 16) mNil)) mNil)) mNil))) sd S =
      .ok (.loc (S ++ [Cell.lst (List.replicate 6 (.bl true) ++ List.replicate 4 (.bl false))]).length) (S ++ [Cell.lst (List.replicate 6 (.bl true) ++ List.replicate 4 (.bl false))] ++ [Cell.lst [.loc S.length, .str (quoteT w), .tup [.str (cs "yes"), .str w]]]) :=
    lst_ev (cons_ok f1 (cons_ok (q1 _) (cons_ok (q2 _) (mNil_ev)))) (by simp)
  generalize hS1 : S ++ [Cell.lst (List.replicate 6 (.bl true) ++ List.replicate 4 (.bl false))] ++ [Cell.lst [.loc S.length, .str (quoteT w), .tup [.str (cs "yes"), .str w]]] = S1 at A
  have r2 : mTup (mCons (mC (.str (cs "yes"))) (mCons (mVar 16) mNil)) sd (S1 ++ [Cell.lst [.bl true], Cell.lst (List.replicate 6 (.bl true)), Cell.lst [.bl false], Cell.lst (List.replicate 4 (.bl false)), Cell.lst (List.replicate 6 (.bl true) ++ List.replicate 4 (.bl false))]) = .ok (.tup [.str (cs "yes"), .str w]) (S1 ++ [Cell.lst [.bl true], Cell.lst (List.replicate 6 (.bl true)), Cell.lst [.bl false], Cell.lst (List.replicate 4 (.bl false)), Cell.lst (List.replicate 6 (.bl true) ++ List.replicate 4 (.bl false))]) := by
    simp only [mTup_ev, mCons_ev, mC_ev, mVar_ev, s16, mNil_ev, bind_ok, List.length_cons, List.length_nil, Nat.zero_add, z2, show (1 + 1 ≤ sizeLine) from z2, if_true]
  have B : mLst (mCons (mBin oAdd (mBin oMulL (mLst (mCons (mC (.bl true)) mNil)) (mC (.int 6))) (mBin oMulL (mLst (mCons (mC (.bl false)) mNil)) (mC (.int 4)))) (mCons (mCall m__law_quoted (mCons (mVar 16) mNil)) (mCons (mTup (mCons (mC (.str (cs "yes"))) (mCons (mVar 16) mNil))) mNil))) sd S1 = .ok _ _ :=
    lst_ev (cons_ok (add_rep2 6 4 (by omega) (by omega)) (cons_ok (q1 _) (cons_ok r2 (mNil_ev)))) (by simp)
  refine ⟨S1 ++ [Cell.lst [.bl true], Cell.lst (List.replicate 6 (.bl true)), Cell.lst [.bl false], Cell.lst (List.replicate 4 (.bl false)), Cell.lst (List.replicate 6 (.bl true) ++ List.replicate 4 (.bl false))] ++ [Cell.lst [.loc (S1.length + 4), .str (quoteT w), .tup [.str (cs "yes"), .str w]]], ?_⟩
  unfold pEnd
  rw [mRet_ev, mCall_ev, cons_ok A (cons_ok B (mNil_ev)), bind_ok, m_same_ok ?_]
  · rfl
  · have hS1l : S1.length = S.length + 2 := by rw [← hS1]; simp
    refine SameP_mono (n := 23) (by omega) ⟨[.loc S.length, .str (quoteT w), .tup [.str (cs "yes"), .str w]], [.loc (S1.length + 4), .str (quoteT w), .tup [.str (cs "yes"), .str w]], ?_, ?_, by simp, ⟨List.replicate 6 (.bl true) ++ List.replicate 4 (.bl false), List.replicate 6 (.bl true) ++ List.replicate 4 (.bl false), ?_, ?_, by simp, ?_⟩, same_str oq, ⟨by simp, same_str oyes, same_str hw, trivial⟩, trivial⟩
    · rw [cellL_ev, List.append_assoc, ← hS1]
      rw [app_old (c := Cell.lst [.loc S.length, .str (quoteT w), .tup [.str (cs "yes"), .str w]]) app_last]
    · rw [cellL_ev, app_last]
    · rw [cellL_ev, List.append_assoc, ← hS1, List.append_assoc, List.append_assoc, app_get0]
      rfl
    · rw [cellL_ev, List.append_assoc, app_get]
      rfl
    · exact ⟨rfl, rfl, rfl, rfl, rfl, rfl, rfl, rfl, rfl, rfl, trivial⟩
end K80

namespace K80
open PySem PySem.Spec PyProof.Rows L2 Fx
theorem law_body (ns : List Int) : ∃ S1, b_law (startD 17 [.cst (ns.map D.int)]) [] = .rt (.bl true) S1 := by
  unfold b_law
  have o0 : okst ((0, 0, 80) : Tp) := ⟨by decide, by decide, by decide⟩
  refine seq_ex (sd1 := [some (.cst (ns.map D.int)), some (.loc 1), none, none, none, none, none, none, none, none, none, none, none, none, none, none, none]) (S1 := tpc ns (0, 0, 80) []) ?_ ?_
  · simp [startD, tpc, sz (show 4 ≤ 1000 by omega)]
  obtain ⟨hd, o1⟩ := drawV_ok (ns := ns) 3 (0, 0, 80) o0
  have e1 : m__law_draw 4 [.loc 1, .int 3] (tpc ns (0, 0, 80) []) = .ok (drawV ns 3 (0, 0, 80)).1 (tpc ns (drawV ns 3 (0, 0, 80)).2 []) := by
    unfold m__law_draw
    simp only [tapeOf_tpc o0]
    rw [if_pos ⟨by omega, by omega, by decide⟩]
    rfl
  refine seq_ex (sd1 := [some (.cst (ns.map D.int)), some (.loc 1), some (drawV ns 3 (0, 0, 80)).1, none, none, none, none, none, none, none, none, none, none, none, none, none, none]) (S1 := tpc ns (drawV ns 3 (0, 0, 80)).2 []) ?_ ?_
  · simp only [mSet_ev, mCall_ev, mCons_ev, mVar_ev, mC_ev, mNil_ev, bind_ok, thenS_ok, List.getElem?_cons_succ, List.getElem?_cons_zero, e1, List.set_cons_succ, List.set_cons_zero]
  generalize (drawV ns 3 (0, 0, 80)).2 = st1 at o1
  generalize (drawV ns 3 (0, 0, 80)).1 = v at hd
  have hL : lenD 3 = 800 := by decide
  have tx : ∀ g : List Nat, g.length ≤ 4 → okV 23 v ∧ (shwN g 23 v).length ≤ 800 := fun g hg => by
    obtain ⟨hR, l1⟩ := drawn_ok hg hd
    rw [hL] at l1
    have hv := okR_okV hR
    refine ⟨okV_mono (n := 4) (by omega) hv, ?_⟩
    rw [shw_mono g (n := 4) (m := 23) (by omega) hv]
    exact l1
  obtain ⟨v23, l32⟩ := tx [32] (by decide)
  obtain ⟨g, st2, e2, o2, hg, og, lg⟩ := l_gap (ns := ns) (c := .cst (ns.map D.int)) (R := []) o1 v23 (by omega)
  refine seq_ex e2 ?_
  obtain ⟨_, l2⟩ := tx g lg
  refine seq_ex (l_loose v23 (by omega) lg) ?_
  obtain ⟨R1, e3⟩ := l_same (c := .cst (ns.map D.int)) (S := tpc ns st2 []) hd hg og lg
  rw [show tpc ns st2 [] ++ R1 = tpc ns st2 ([] ++ R1) from rfl] at e3
  refine seq_ex e3 ?_
  have ot : okT (shwN [32] 23 v) = true := shw_okT (by decide) v23
  obtain ⟨x6, x7, x8, x9, st3, e4, o3⟩ := l_for5 (ns := ns) (c := .cst (ns.map D.int)) (v := v) (g := .str g) (lo := .str (g.tail ++ shwN g 23 v ++ g.tail)) (R := [] ++ R1) o2 ot (by omega)
  refine seq_ex e4 ?_
  generalize [] ++ R1 = R2
  refine seq_ex (sd1 := sl17 (.cst (ns.map D.int)) v (.str (shwN [32] 23 v)) (.str g) (.str (g.tail ++ shwN g 23 v ++ g.tail)) x6 x7 x8 x9 (some (.tup [])) (some (.int 1)) none none none none none) (S1 := tpc ns st3 R2) ?_ ?_
  · simp [sl17, z2]
  obtain ⟨n, x12, st4, e5, o4, hn⟩ := l_pow (ns := ns) (c := .cst (ns.map D.int)) (v := v) (t := .str (shwN [32] 23 v)) (g := .str g) (lo := .str (g.tail ++ shwN g 23 v ++ g.tail)) (x6 := x6) (x7 := x7) (x8 := x8) (x9 := x9) (x10 := some (.tup [])) (R := R2) o3
  refine seq_ex e5 ?_
  obtain ⟨i, st5, e6, o5, hi⟩ := l_sub (ns := ns) (c := .cst (ns.map D.int)) (v := v) (t := .str (shwN [32] 23 v)) (g := .str g) (lo := .str (g.tail ++ shwN g 23 v ++ g.tail)) (x6 := x6) (x7 := x7) (x8 := x8) (x9 := x9) (x10 := some (.tup [])) (x12 := x12) (R := R2) o4 hn
  refine seq_ex e6 ?_
  obtain ⟨r, x12', st6, e7, o6, hr⟩ := l_deep (ns := ns) (c := .cst (ns.map D.int)) (v := v) (t := .str (shwN [32] 23 v)) (g := .str g) (lo := .str (g.tail ++ shwN g 23 v ++ g.tail)) (x6 := x6) (x7 := x7) (x8 := x8) (x9 := x9) (x11 := some (.int i)) (x12 := x12) (R := R2) o5
  refine seq_ex e7 ?_
  obtain ⟨x13, x14, R3, e8⟩ := l_one (ns := ns) (st := st6) (c := .cst (ns.map D.int)) (v := v) (t := .str (shwN [32] 23 v)) (g := .str g) (lo := .str (g.tail ++ shwN g 23 v ++ g.tail)) (x6 := x6) (x7 := x7) (x8 := x8) (x9 := x9) (x12 := x12') (R := R2) hr hi
  refine seq_ex e8 ?_
  have hlen : ∀ st : Tp, (tpc ns st R3).length = R3.length + 2 := fun st => by simp [tpc]
  have e8b := l_odd (c := .cst (ns.map D.int)) (v := v) (t := .str (shwN [32] 23 v)) (g := .str g) (lo := .str (g.tail ++ shwN g 23 v ++ g.tail)) (x6 := x6) (x7 := x7) (x8 := x8) (x9 := x9) (x10 := some (chainV r)) (x11 := some (.int i)) (x12 := x12') (x13 := x13) (x14 := x14) (tpc ns st6 R3)
  rw [hlen, show tpc ns st6 R3 ++ oddC (R3.length + 2) = tpc ns st6 (R3 ++ oddC (R3.length + 2)) from rfl] at e8b
  refine seq_ex e8b ?_
  obtain ⟨w, st7, L, e9, ow, lw⟩ := l_word (ns := ns) (st := st6) (c := .cst (ns.map D.int)) (v := v) (t := .str (shwN [32] 23 v)) (g := .str g) (lo := .str (g.tail ++ shwN g 23 v ++ g.tail)) (x6 := x6) (x7 := x7) (x8 := x8) (x9 := x9) (x10 := some (chainV r)) (x11 := some (.int i)) (x12 := x12') (x13 := x13) (x14 := x14) (x15 := some (.loc (R3.length + 2 + 4))) (R := R3 ++ oddC (R3.length + 2)) o6
  refine seq_ex e9 ?_
  have e10 := l_end (c := .cst (ns.map D.int)) (v := v) (t := .str (shwN [32] 23 v)) (g := .str g) (lo := .str (g.tail ++ shwN g 23 v ++ g.tail)) (x6 := x6) (x7 := x7) (x8 := x8) (x9 := x9) (x10 := some (chainV r)) (x11 := some (.int i)) (x12 := x12') (x13 := x13) (x14 := x14) (Q := tpc ns st7 R3) (L := L) ow lw
  rw [hlen] at e10
  have ea : tpc ns st7 R3 ++ (oddC (R3.length + 2) ++ L) = tpc ns st7 (R3 ++ oddC (R3.length + 2) ++ L) := by
    rw [List.append_assoc]
    rfl
  rw [ea] at e10
  exact e10
noncomputable def m_law : List D → List Cell → Res D := mLaw b_law 17
theorem law_true : ∀ ns : List Int, ns.length ≤ 63 → ∃ S, m_law [.cst (ns.map D.int)] [] = .ok (.bl true) S := fun ns _ => by
  obtain ⟨S1, e⟩ := law_body ns
  exact mLaw_true e
section
variable {P : Program} {w : World} {K : PySem.W.Frag} {mg : Str → Option Value} {base : Heap}
abbrev stkF : List D → List Cell → Res D := fun _ _ => .stk
theorem f_is (GG : GK K mg) : ∀ n, FnM P w K mg base (n + 2) "is_shown_at" 2 (m_is_shown_at n)
  | 0 => w_is_shown_at GG (Nat.zero_le _) ((FnM.none (ps := ["value", "deep"]) GG.f_is_shown_at sc_is_shown_at) : FnM P w K mg base 1 "is_shown_at" 2 stkF) fun ds S h => ref_is_shown_at 0 _ (fun m e => by omega) ds S h _ (by unfold b_is_shown_at; rfl)
  | n + 1 => w_is_shown_at GG (Nat.zero_le _) (f_is GG n) fun ds S h => ref_is_shown_at (n + 1) _ (fun m e => by have : n = m := by { omega }; rw [this]) ds S h _ (by unfold b_is_shown_at; rfl)
theorem f_show (GG : GK K mg) (hq : FnM P w K mg base 1 "quoted" 1 m_quoted) : ∀ n, FnM P w K mg base (n + 1) "show" 1 (m_show n)
  | 0 => (FnM.none (ps := ["value"]) GG.f_show sc_show).imp fun ds S => .inl (by
    unfold m_show
    split
    · rw [if_neg]
      rintro ⟨h, _⟩
      exact h
    · rfl)
  | n + 1 => w_show GG hq (by omega) (f_show GG hq n) fun ds S h => ref_show n ds S h _ (by unfold b_show; rfl)
theorem f_lshow (GG : GK K mg) (hq : FnM P w K mg base 1 "_law_quoted" 1 m__law_quoted) : ∀ n, FnM P w K mg base (n + 1) "_law_show" 2 (m__law_show n)
  | 0 => (FnM.none (ps := ["value", "gap"]) GG.f__law_show sc__law_show).imp fun ds S => .inl (by
    unfold m__law_show
    split
    · rw [if_neg]
      rintro ⟨h, _⟩
      exact h
    · rfl)
  | n + 1 => w__law_show GG hq (by omega) (f_lshow GG hq n) fun ds S h => ref__law_show n ds S h _ (by unfold b__law_show; rfl)
theorem f_lread (GG : GK K mg) (hq : FnM P w K mg base 1 "_law_skip" 2 m__law_skip) : ∀ n, FnM P w K mg base (n + 1) "_law_read" 3 (m__law_read n)
  | 0 => (FnM.none (ps := ["text", "at", "deep"]) GG.f__law_read sc__law_read).imp fun ds S => .inl (by
    unfold m__law_read
    split
    · rw [if_neg]
      rintro ⟨_, h, h2, h3, _⟩
      omega
    · rfl)
  | n + 1 => w__law_read GG hq (by omega) (f_lread GG hq n) fun ds S h => ref__law_read n ds S h _ (by unfold b__law_read; rfl)
theorem f_draw (GG : GK K mg) (hq : FnM P w K mg base 1 "_law_next" 2 m_next) : ∀ n, FnM P w K mg base (n + 1) "_law_draw" 2 (m__law_draw n)
  | 0 => (FnM.none (ps := ["tape", "deep"]) GG.f__law_draw sc__law_draw).imp fun ds S => .inl (by
    unfold m__law_draw
    split
    · split
      · rw [if_neg]
        rintro ⟨h, h2, h3⟩
        omega
      · rfl
    · rfl)
  | n + 1 => w__law_draw GG hq (by omega) (f_draw GG hq n) fun ds S h => ref__law_draw n ds S h _ (by unfold b__law_draw; rfl)
theorem f_same (GG : GK K mg) : ∀ n, FnM P w K mg base (n + 1) "_law_same" 2 (m_same n)
  | 0 => (FnM.none (ps := ["told", "due"]) GG.f__law_same sc__law_same).imp fun ds S => .inl (by
    unfold m_same
    rw [if_neg]
    rintro ⟨a, b, _, h⟩
    exact h)
  | n + 1 => w__law_same GG (Nat.zero_le _) (f_same GG n) fun ds S h => by
    have := ref_same n ds S h
    unfold bSame at this
    unfold b__law_same
    exact this
theorem f_tup (GG : GK K mg) (Z : XK P w K mg) (hs : FnM P w K mg base 1 "skipped" 2 m_skipped) {n k : Nat} (hk : 3 ≤ k) (h : FnM P w K mg base k "value_at" 3 (m_value_at n)) : FnM P w K mg base (k + 1) "tuple_at" 3 (m_tuple_at n) :=
  w_tuple_at GG Z hs hk h fun ds S h => ref_tuple_at n ds S h _ (by unfold b_tuple_at; rfl)
theorem f_val (GG : GK K mg) (Z : XK P w K mg) (hs : FnM P w K mg base 1 "skipped" 2 m_skipped) (hq : FnM P w K mg base 4 "quote_at" 2 m_quote_at) (hi : FnM P w K mg base 4 "integer_at" 2 m_integer_at) : ∀ n, FnM P w K mg base (5 + 2 * n) "value_at" 3 (m_value_at n)
  | 0 => (FnM.none (ps := ["text", "at", "deep"]) GG.f_value_at sc_value_at).imp fun ds S => .inl (by
    unfold m_value_at
    split
    · rw [if_neg]
      rintro ⟨_, h, h2, h3, _⟩
      omega
    · rfl)
  | n + 1 => w_value_at GG Z hi hq hs (by omega) (f_tup GG Z hs (by omega) (f_val GG Z hs hq hi n)) fun ds S h => ref_value_at n ds S h _ (by unfold b_value_at; rfl)
theorem ok_law (GG : GK K mg) (Z : XK P w K mg) {f : Addr} {fd : FuncData} (F : Fun K "law" "law" s_law f fd) : FnOk P w K mg base (L2.CX P w) 50 f fd ["script"] (spM mg K 1 m_law) := by
  have h_is_shown : FnM P w K mg base 23 "is_shown" 1 m_is_shown := w_is_shown GG (f_is GG 20) fun ds S h => ref_is_shown ds S h _ (by unfold b_is_shown; rfl)
  have h_quoted : FnM P w K mg base 1 "quoted" 1 m_quoted := w_quoted GG fun ds S h => ref_quoted ds S h _ (by unfold b_quoted; rfl)
  have h_skipped : FnM P w K mg base 1 "skipped" 2 m_skipped := w_skipped GG fun ds S h => ref_skipped ds S h _ (by unfold b_skipped; rfl)
  have h_quote_at : FnM P w K mg base 4 "quote_at" 2 m_quote_at := w_quote_at GG Z h_skipped fun ds S h => ref_quote_at ds S h _ (by unfold b_quote_at; rfl)
  have h_integer_at : FnM P w K mg base 4 "integer_at" 2 m_integer_at := w_integer_at GG Z h_skipped fun ds S h => ref_integer_at ds S h _ (by unfold b_integer_at; rfl)
  have h_value_at : FnM P w K mg base 47 "value_at" 3 (m_value_at 21) := f_val GG Z h_skipped h_quote_at h_integer_at 21
  have h_read_shown : FnM P w K mg base 48 "read_shown" 1 m_read_shown := w_read_shown GG Z h_skipped h_value_at fun ds S h => ref_read_shown ds S h _ (by unfold b_read_shown; rfl)
  have h__law_next : FnM P w K mg base 1 "_law_next" 2 m_next := w__law_next GG fun ds S h => by
    have := ref_next ds S h
    unfold bNext at this
    unfold b__law_next
    exact this
  have h__law_quoted : FnM P w K mg base 1 "_law_quoted" 1 m__law_quoted := w__law_quoted GG fun ds S h => ref__law_quoted ds S h _ (by unfold b__law_quoted; rfl)
  have h__law_skip : FnM P w K mg base 1 "_law_skip" 2 m__law_skip := w__law_skip GG fun ds S h => ref__law_skip ds S h _ (by unfold b__law_skip; rfl)
  have h__law_whole : FnM P w K mg base 23 "_law_whole" 1 m__law_whole := w__law_whole GG (f_lread GG h__law_skip 21) h__law_skip fun ds S h => ref__law_whole ds S h _ (by unfold b__law_whole; rfl)
  have h__law_asked : FnM P w K mg base 49 "_law_asked" 1 m__law_asked := w__law_asked GG Z h_read_shown fun ds S h => ref__law_asked ds S h _ (by unfold b__law_asked; rfl)
  exact w_law GG h__law_asked (f_draw GG h__law_next 4) h__law_next h__law_quoted (f_same GG 30) (f_lshow GG h__law_quoted 23) h__law_whole h_is_shown h_quoted (f_show GG h_quoted 23) F fun ds S _ => mLaw_ref ds S
end
end K80

namespace K80
open PySem PySem.Spec PyProof.Rows L2 Fx
/-! ### what the top has written -/
theorem short_mk {K : PySem.W.Frag} {w : World} {h : Heap} {mg : Str → Option Value} {d : Addr} {es : Array DictEntry} {n : Nat} {t0 t1 t2 t3 : Tok} (X : K.In h) (G : h.Ns mainGlobals mg)
    (a : PySem.W.nsIn K mainGlobals "SHORT" = some (some (.ref d))) (l : K.lookup d = some ⟨.type "dict", none, .dict es n, #[]⟩) (lit : PySem.W.KeysLit w.params es.toList) (low : (d == sysModules) = false)
    (e0 : PySem.W.nsIn K d "n" = some (some (.str "\n" t0))) (e1 : PySem.W.nsIn K d "t" = some (some (.str "\t" t1))) (e2 : PySem.W.nsIn K d "\\" = some (some (.str "\\" t2))) (e3 : PySem.W.nsIn K d "'" = some (some (.str "'" t3)))
    (tb : keysB es [("n", "\n"), ("t", "\t"), ("\\", "\\"), ("'", "'")] = true) : KTab K w mg "SHORT" t_SHORT :=
  ktab_mk X G a l lit low (fun p hp => by
    simp only [List.mem_cons, List.not_mem_nil, or_false] at hp
    rcases hp with rfl | rfl | rfl | rfl
    · exact ⟨_, e0⟩
    · exact ⟨_, e1⟩
    · exact ⟨_, e2⟩
    · exact ⟨_, e3⟩) tb rfl
theorem gk_mk {K : PySem.W.Frag} {h : Heap} {mg : Str → Option Value} (X : K.In h) (G : h.Ns mainGlobals mg) {f0 : Addr} {od0 an0 : Option Addr} {sl0 : Array (Option Value)} {oc0 kV0 dc0 pm0 cd0 ct0 : Value} {f1 : Addr} {od1 an1 : Option Addr} {sl1 : Array (Option Value)} {oc1 kV1 dc1 pm1 cd1 ct1 : Value} {f2 : Addr} {od2 an2 : Option Addr} {sl2 : Array (Option Value)} {oc2 kV2 dc2 pm2 cd2 ct2 : Value} {f3 : Addr} {od3 an3 : Option Addr} {sl3 : Array (Option Value)} {oc3 kV3 dc3 pm3 cd3 ct3 : Value} {f4 : Addr} {od4 an4 : Option Addr} {sl4 : Array (Option Value)} {oc4 kV4 dc4 pm4 cd4 ct4 : Value} {f5 : Addr} {od5 an5 : Option Addr} {sl5 : Array (Option Value)} {oc5 kV5 dc5 pm5 cd5 ct5 : Value} {f6 : Addr} {od6 an6 : Option Addr} {sl6 : Array (Option Value)} {oc6 kV6 dc6 pm6 cd6 ct6 : Value} {f7 : Addr} {od7 an7 : Option Addr} {sl7 : Array (Option Value)} {oc7 kV7 dc7 pm7 cd7 ct7 : Value} {f8 : Addr} {od8 an8 : Option Addr} {sl8 : Array (Option Value)} {oc8 kV8 dc8 pm8 cd8 ct8 : Value} {f9 : Addr} {od9 an9 : Option Addr} {sl9 : Array (Option Value)} {oc9 kV9 dc9 pm9 cd9 ct9 : Value} {f10 : Addr} {od10 an10 : Option Addr} {sl10 : Array (Option Value)} {oc10 kV10 dc10 pm10 cd10 ct10 : Value} {f11 : Addr} {od11 an11 : Option Addr} {sl11 : Array (Option Value)} {oc11 kV11 dc11 pm11 cd11 ct11 : Value} {f12 : Addr} {od12 an12 : Option Addr} {sl12 : Array (Option Value)} {oc12 kV12 dc12 pm12 cd12 ct12 : Value} {f13 : Addr} {od13 an13 : Option Addr} {sl13 : Array (Option Value)} {oc13 kV13 dc13 pm13 cd13 ct13 : Value} {f14 : Addr} {od14 an14 : Option Addr} {sl14 : Array (Option Value)} {oc14 kV14 dc14 pm14 cd14 ct14 : Value} {f15 : Addr} {od15 an15 : Option Addr} {sl15 : Array (Option Value)} {oc15 kV15 dc15 pm15 cd15 ct15 : Value} {f16 : Addr} {od16 an16 : Option Addr} {sl16 : Array (Option Value)} {oc16 kV16 dc16 pm16 cd16 ct16 : Value} {f17 : Addr} {od17 an17 : Option Addr} {sl17 : Array (Option Value)} {oc17 kV17 dc17 pm17 cd17 ct17 : Value} {f18 : Addr} {od18 an18 : Option Addr} {sl18 : Array (Option Value)} {oc18 kV18 dc18 pm18 cd18 ct18 : Value} {f19 : Addr} {od19 an19 : Option Addr} {sl19 : Array (Option Value)} {oc19 kV19 dc19 pm19 cd19 ct19 : Value} {t0 : Tok} {t1 : Tok} {t2 : Tok}
    (a0 : PySem.W.nsIn K mainGlobals "is_shown_at" = some (some (.ref f0))) (l0 : K.lookup f0 = some ⟨oc0, od0, .func (PySem.W.fnOf "is_shown_at" "is_shown_at" (defArgs (topS 9)) (defBody (topS 9)) (defScope (topS 9)) .none kV0 dc0 pm0 an0 cd0 ct0), sl0⟩) (c0 : PySem.W.codeIn K cd0 "is_shown_at" = true) (k0 : PySem.W.keepIn K (.ref f0) = true)
    (a1 : PySem.W.nsIn K mainGlobals "is_shown" = some (some (.ref f1))) (l1 : K.lookup f1 = some ⟨oc1, od1, .func (PySem.W.fnOf "is_shown" "is_shown" (defArgs (topS 8)) (defBody (topS 8)) (defScope (topS 8)) .none kV1 dc1 pm1 an1 cd1 ct1), sl1⟩) (c1 : PySem.W.codeIn K cd1 "is_shown" = true) (k1 : PySem.W.keepIn K (.ref f1) = true)
    (a2 : PySem.W.nsIn K mainGlobals "quoted" = some (some (.ref f2))) (l2 : K.lookup f2 = some ⟨oc2, od2, .func (PySem.W.fnOf "quoted" "quoted" (defArgs (topS 11)) (defBody (topS 11)) (defScope (topS 11)) .none kV2 dc2 pm2 an2 cd2 ct2), sl2⟩) (c2 : PySem.W.codeIn K cd2 "quoted" = true) (k2 : PySem.W.keepIn K (.ref f2) = true)
    (a3 : PySem.W.nsIn K mainGlobals "show" = some (some (.ref f3))) (l3 : K.lookup f3 = some ⟨oc3, od3, .func (PySem.W.fnOf "show" "show" (defArgs (topS 10)) (defBody (topS 10)) (defScope (topS 10)) .none kV3 dc3 pm3 an3 cd3 ct3), sl3⟩) (c3 : PySem.W.codeIn K cd3 "show" = true) (k3 : PySem.W.keepIn K (.ref f3) = true)
    (a4 : PySem.W.nsIn K mainGlobals "skipped" = some (some (.ref f4))) (l4 : K.lookup f4 = some ⟨oc4, od4, .func (PySem.W.fnOf "skipped" "skipped" (defArgs (topS 13)) (defBody (topS 13)) (defScope (topS 13)) .none kV4 dc4 pm4 an4 cd4 ct4), sl4⟩) (c4 : PySem.W.codeIn K cd4 "skipped" = true) (k4 : PySem.W.keepIn K (.ref f4) = true)
    (a5 : PySem.W.nsIn K mainGlobals "quote_at" = some (some (.ref f5))) (l5 : K.lookup f5 = some ⟨oc5, od5, .func (PySem.W.fnOf "quote_at" "quote_at" (defArgs (topS 16)) (defBody (topS 16)) (defScope (topS 16)) .none kV5 dc5 pm5 an5 cd5 ct5), sl5⟩) (c5 : PySem.W.codeIn K cd5 "quote_at" = true) (k5 : PySem.W.keepIn K (.ref f5) = true)
    (a6 : PySem.W.nsIn K mainGlobals "integer_at" = some (some (.ref f6))) (l6 : K.lookup f6 = some ⟨oc6, od6, .func (PySem.W.fnOf "integer_at" "integer_at" (defArgs (topS 17)) (defBody (topS 17)) (defScope (topS 17)) .none kV6 dc6 pm6 an6 cd6 ct6), sl6⟩) (c6 : PySem.W.codeIn K cd6 "integer_at" = true) (k6 : PySem.W.keepIn K (.ref f6) = true)
    (a7 : PySem.W.nsIn K mainGlobals "tuple_at" = some (some (.ref f7))) (l7 : K.lookup f7 = some ⟨oc7, od7, .func (PySem.W.fnOf "tuple_at" "tuple_at" (defArgs (topS 15)) (defBody (topS 15)) (defScope (topS 15)) .none kV7 dc7 pm7 an7 cd7 ct7), sl7⟩) (c7 : PySem.W.codeIn K cd7 "tuple_at" = true) (k7 : PySem.W.keepIn K (.ref f7) = true)
    (a8 : PySem.W.nsIn K mainGlobals "value_at" = some (some (.ref f8))) (l8 : K.lookup f8 = some ⟨oc8, od8, .func (PySem.W.fnOf "value_at" "value_at" (defArgs (topS 14)) (defBody (topS 14)) (defScope (topS 14)) .none kV8 dc8 pm8 an8 cd8 ct8), sl8⟩) (c8 : PySem.W.codeIn K cd8 "value_at" = true) (k8 : PySem.W.keepIn K (.ref f8) = true)
    (a9 : PySem.W.nsIn K mainGlobals "read_shown" = some (some (.ref f9))) (l9 : K.lookup f9 = some ⟨oc9, od9, .func (PySem.W.fnOf "read_shown" "read_shown" (defArgs (topS 12)) (defBody (topS 12)) (defScope (topS 12)) .none kV9 dc9 pm9 an9 cd9 ct9), sl9⟩) (c9 : PySem.W.codeIn K cd9 "read_shown" = true) (k9 : PySem.W.keepIn K (.ref f9) = true)
    (a10 : PySem.W.nsIn K mainGlobals "_law_next" = some (some (.ref f10))) (l10 : K.lookup f10 = some ⟨oc10, od10, .func (PySem.W.fnOf "_law_next" "_law_next" (defArgs (topS 19)) (defBody (topS 19)) (defScope (topS 19)) .none kV10 dc10 pm10 an10 cd10 ct10), sl10⟩) (c10 : PySem.W.codeIn K cd10 "_law_next" = true) (k10 : PySem.W.keepIn K (.ref f10) = true)
    (a11 : PySem.W.nsIn K mainGlobals "_law_same" = some (some (.ref f11))) (l11 : K.lookup f11 = some ⟨oc11, od11, .func (PySem.W.fnOf "_law_same" "_law_same" (defArgs (topS 20)) (defBody (topS 20)) (defScope (topS 20)) .none kV11 dc11 pm11 an11 cd11 ct11), sl11⟩) (c11 : PySem.W.codeIn K cd11 "_law_same" = true) (k11 : PySem.W.keepIn K (.ref f11) = true)
    (a12 : PySem.W.nsIn K mainGlobals "_law_draw" = some (some (.ref f12))) (l12 : K.lookup f12 = some ⟨oc12, od12, .func (PySem.W.fnOf "_law_draw" "_law_draw" (defArgs (topS 21)) (defBody (topS 21)) (defScope (topS 21)) .none kV12 dc12 pm12 an12 cd12 ct12), sl12⟩) (c12 : PySem.W.codeIn K cd12 "_law_draw" = true) (k12 : PySem.W.keepIn K (.ref f12) = true)
    (a13 : PySem.W.nsIn K mainGlobals "_law_quoted" = some (some (.ref f13))) (l13 : K.lookup f13 = some ⟨oc13, od13, .func (PySem.W.fnOf "_law_quoted" "_law_quoted" (defArgs (topS 22)) (defBody (topS 22)) (defScope (topS 22)) .none kV13 dc13 pm13 an13 cd13 ct13), sl13⟩) (c13 : PySem.W.codeIn K cd13 "_law_quoted" = true) (k13 : PySem.W.keepIn K (.ref f13) = true)
    (a14 : PySem.W.nsIn K mainGlobals "_law_show" = some (some (.ref f14))) (l14 : K.lookup f14 = some ⟨oc14, od14, .func (PySem.W.fnOf "_law_show" "_law_show" (defArgs (topS 23)) (defBody (topS 23)) (defScope (topS 23)) .none kV14 dc14 pm14 an14 cd14 ct14), sl14⟩) (c14 : PySem.W.codeIn K cd14 "_law_show" = true) (k14 : PySem.W.keepIn K (.ref f14) = true)
    (a15 : PySem.W.nsIn K mainGlobals "_law_skip" = some (some (.ref f15))) (l15 : K.lookup f15 = some ⟨oc15, od15, .func (PySem.W.fnOf "_law_skip" "_law_skip" (defArgs (topS 24)) (defBody (topS 24)) (defScope (topS 24)) .none kV15 dc15 pm15 an15 cd15 ct15), sl15⟩) (c15 : PySem.W.codeIn K cd15 "_law_skip" = true) (k15 : PySem.W.keepIn K (.ref f15) = true)
    (a16 : PySem.W.nsIn K mainGlobals "_law_read" = some (some (.ref f16))) (l16 : K.lookup f16 = some ⟨oc16, od16, .func (PySem.W.fnOf "_law_read" "_law_read" (defArgs (topS 25)) (defBody (topS 25)) (defScope (topS 25)) .none kV16 dc16 pm16 an16 cd16 ct16), sl16⟩) (c16 : PySem.W.codeIn K cd16 "_law_read" = true) (k16 : PySem.W.keepIn K (.ref f16) = true)
    (a17 : PySem.W.nsIn K mainGlobals "_law_whole" = some (some (.ref f17))) (l17 : K.lookup f17 = some ⟨oc17, od17, .func (PySem.W.fnOf "_law_whole" "_law_whole" (defArgs (topS 26)) (defBody (topS 26)) (defScope (topS 26)) .none kV17 dc17 pm17 an17 cd17 ct17), sl17⟩) (c17 : PySem.W.codeIn K cd17 "_law_whole" = true) (k17 : PySem.W.keepIn K (.ref f17) = true)
    (a18 : PySem.W.nsIn K mainGlobals "_law_asked" = some (some (.ref f18))) (l18 : K.lookup f18 = some ⟨oc18, od18, .func (PySem.W.fnOf "_law_asked" "_law_asked" (defArgs (topS 27)) (defBody (topS 27)) (defScope (topS 27)) .none kV18 dc18 pm18 an18 cd18 ct18), sl18⟩) (c18 : PySem.W.codeIn K cd18 "_law_asked" = true) (k18 : PySem.W.keepIn K (.ref f18) = true)
    (a19 : PySem.W.nsIn K mainGlobals "law" = some (some (.ref f19))) (l19 : K.lookup f19 = some ⟨oc19, od19, .func (PySem.W.fnOf "law" "law" (defArgs (topS 28)) (defBody (topS 28)) (defScope (topS 28)) .none kV19 dc19 pm19 an19 cd19 ct19), sl19⟩) (c19 : PySem.W.codeIn K cd19 "law" = true) (k19 : PySem.W.keepIn K (.ref f19) = true)
    (z0 : PySem.W.nsIn K mainGlobals "abs" = some none)
    (z1 : PySem.W.nsIn K mainGlobals "all" = some none)
    (z2 : PySem.W.nsIn K mainGlobals "bool" = some none)
    (z3 : PySem.W.nsIn K mainGlobals "int" = some none)
    (z4 : PySem.W.nsIn K mainGlobals "isinstance" = some none)
    (z5 : PySem.W.nsIn K mainGlobals "len" = some none)
    (z6 : PySem.W.nsIn K mainGlobals "list" = some none)
    (z7 : PySem.W.nsIn K mainGlobals "range" = some none)
    (z8 : PySem.W.nsIn K mainGlobals "str" = some none)
    (z9 : PySem.W.nsIn K mainGlobals "tuple" = some none)
    (y0 : PySem.W.nsIn K mainGlobals "LARGEST" = some (some (.int 10000000000000000000000000000000000000000 t0)))
    (y1 : PySem.W.nsIn K mainGlobals "MOST_DIGITS" = some (some (.int 40 t1)))
    (y2 : PySem.W.nsIn K mainGlobals "MOST_NESTED" = some (some (.int 20 t2))) : GK K mg :=
  ⟨PySem.W.mg_none_of X G z0,
   PySem.W.mg_none_of X G z1,
   PySem.W.mg_none_of X G z2,
   PySem.W.mg_none_of X G z3,
   PySem.W.mg_none_of X G z4,
   PySem.W.mg_none_of X G z5,
   PySem.W.mg_none_of X G z6,
   PySem.W.mg_none_of X G z7,
   PySem.W.mg_none_of X G z8,
   PySem.W.mg_none_of X G z9,
   isFn_mk X G a0 l0 c0 k0 (fun _ _ _ _ _ _ us hl => match us, hl with | [_, _], _ => rfl),
   isFn_mk X G a1 l1 c1 k1 (fun _ _ _ _ _ _ us hl => match us, hl with | [_], _ => rfl),
   isFn_mk X G a2 l2 c2 k2 (fun _ _ _ _ _ _ us hl => match us, hl with | [_], _ => rfl),
   isFn_mk X G a3 l3 c3 k3 (fun _ _ _ _ _ _ us hl => match us, hl with | [_], _ => rfl),
   isFn_mk X G a4 l4 c4 k4 (fun _ _ _ _ _ _ us hl => match us, hl with | [_, _], _ => rfl),
   isFn_mk X G a5 l5 c5 k5 (fun _ _ _ _ _ _ us hl => match us, hl with | [_, _], _ => rfl),
   isFn_mk X G a6 l6 c6 k6 (fun _ _ _ _ _ _ us hl => match us, hl with | [_, _], _ => rfl),
   isFn_mk X G a7 l7 c7 k7 (fun _ _ _ _ _ _ us hl => match us, hl with | [_, _, _], _ => rfl),
   isFn_mk X G a8 l8 c8 k8 (fun _ _ _ _ _ _ us hl => match us, hl with | [_, _, _], _ => rfl),
   isFn_mk X G a9 l9 c9 k9 (fun _ _ _ _ _ _ us hl => match us, hl with | [_], _ => rfl),
   isFn_mk X G a10 l10 c10 k10 (fun _ _ _ _ _ _ us hl => match us, hl with | [_, _], _ => rfl),
   isFn_mk X G a11 l11 c11 k11 (fun _ _ _ _ _ _ us hl => match us, hl with | [_, _], _ => rfl),
   isFn_mk X G a12 l12 c12 k12 (fun _ _ _ _ _ _ us hl => match us, hl with | [_, _], _ => rfl),
   isFn_mk X G a13 l13 c13 k13 (fun _ _ _ _ _ _ us hl => match us, hl with | [_], _ => rfl),
   isFn_mk X G a14 l14 c14 k14 (fun _ _ _ _ _ _ us hl => match us, hl with | [_, _], _ => rfl),
   isFn_mk X G a15 l15 c15 k15 (fun _ _ _ _ _ _ us hl => match us, hl with | [_, _], _ => rfl),
   isFn_mk X G a16 l16 c16 k16 (fun _ _ _ _ _ _ us hl => match us, hl with | [_, _, _], _ => rfl),
   isFn_mk X G a17 l17 c17 k17 (fun _ _ _ _ _ _ us hl => match us, hl with | [_], _ => rfl),
   isFn_mk X G a18 l18 c18 k18 (fun _ _ _ _ _ _ us hl => match us, hl with | [_], _ => rfl),
   isFn_mk X G a19 l19 c19 k19 (fun _ _ _ _ _ _ us hl => match us, hl with | [_], _ => rfl),
   ⟨t0, PySem.W.mg_of X G y0⟩,
   ⟨t1, PySem.W.mg_of X G y1⟩,
   ⟨t2, PySem.W.mg_of X G y2⟩⟩
theorem all_mk {l : PySem.W.OpenLaw} {w : World} {K : PySem.W.Frag} {h : Heap} {mg : Str → Option Value} {fa : Addr} (X : K.In h) (G : h.Ns mainGlobals mg) (hfa : mg "law" = some (.ref fa)) {f0 : Addr} {od0 an0 : Option Addr} {sl0 : Array (Option Value)} {oc0 kV0 dc0 pm0 cd0 ct0 : Value} {f1 : Addr} {od1 an1 : Option Addr} {sl1 : Array (Option Value)} {oc1 kV1 dc1 pm1 cd1 ct1 : Value} {f2 : Addr} {od2 an2 : Option Addr} {sl2 : Array (Option Value)} {oc2 kV2 dc2 pm2 cd2 ct2 : Value} {f3 : Addr} {od3 an3 : Option Addr} {sl3 : Array (Option Value)} {oc3 kV3 dc3 pm3 cd3 ct3 : Value} {f4 : Addr} {od4 an4 : Option Addr} {sl4 : Array (Option Value)} {oc4 kV4 dc4 pm4 cd4 ct4 : Value} {f5 : Addr} {od5 an5 : Option Addr} {sl5 : Array (Option Value)} {oc5 kV5 dc5 pm5 cd5 ct5 : Value} {f6 : Addr} {od6 an6 : Option Addr} {sl6 : Array (Option Value)} {oc6 kV6 dc6 pm6 cd6 ct6 : Value} {f7 : Addr} {od7 an7 : Option Addr} {sl7 : Array (Option Value)} {oc7 kV7 dc7 pm7 cd7 ct7 : Value} {f8 : Addr} {od8 an8 : Option Addr} {sl8 : Array (Option Value)} {oc8 kV8 dc8 pm8 cd8 ct8 : Value} {f9 : Addr} {od9 an9 : Option Addr} {sl9 : Array (Option Value)} {oc9 kV9 dc9 pm9 cd9 ct9 : Value} {f10 : Addr} {od10 an10 : Option Addr} {sl10 : Array (Option Value)} {oc10 kV10 dc10 pm10 cd10 ct10 : Value} {f11 : Addr} {od11 an11 : Option Addr} {sl11 : Array (Option Value)} {oc11 kV11 dc11 pm11 cd11 ct11 : Value} {f12 : Addr} {od12 an12 : Option Addr} {sl12 : Array (Option Value)} {oc12 kV12 dc12 pm12 cd12 ct12 : Value} {f13 : Addr} {od13 an13 : Option Addr} {sl13 : Array (Option Value)} {oc13 kV13 dc13 pm13 cd13 ct13 : Value} {f14 : Addr} {od14 an14 : Option Addr} {sl14 : Array (Option Value)} {oc14 kV14 dc14 pm14 cd14 ct14 : Value} {f15 : Addr} {od15 an15 : Option Addr} {sl15 : Array (Option Value)} {oc15 kV15 dc15 pm15 cd15 ct15 : Value} {f16 : Addr} {od16 an16 : Option Addr} {sl16 : Array (Option Value)} {oc16 kV16 dc16 pm16 cd16 ct16 : Value} {f17 : Addr} {od17 an17 : Option Addr} {sl17 : Array (Option Value)} {oc17 kV17 dc17 pm17 cd17 ct17 : Value} {f18 : Addr} {od18 an18 : Option Addr} {sl18 : Array (Option Value)} {oc18 kV18 dc18 pm18 cd18 ct18 : Value} {f19 : Addr} {od19 an19 : Option Addr} {sl19 : Array (Option Value)} {oc19 kV19 dc19 pm19 cd19 ct19 : Value} {t0 : Tok} {t1 : Tok} {t2 : Tok}
    (Z : XK l.prog w K mg)
    (a0 : PySem.W.nsIn K mainGlobals "is_shown_at" = some (some (.ref f0))) (l0 : K.lookup f0 = some ⟨oc0, od0, .func (PySem.W.fnOf "is_shown_at" "is_shown_at" (defArgs (topS 9)) (defBody (topS 9)) (defScope (topS 9)) .none kV0 dc0 pm0 an0 cd0 ct0), sl0⟩) (c0 : PySem.W.codeIn K cd0 "is_shown_at" = true) (k0 : PySem.W.keepIn K (.ref f0) = true)
    (a1 : PySem.W.nsIn K mainGlobals "is_shown" = some (some (.ref f1))) (l1 : K.lookup f1 = some ⟨oc1, od1, .func (PySem.W.fnOf "is_shown" "is_shown" (defArgs (topS 8)) (defBody (topS 8)) (defScope (topS 8)) .none kV1 dc1 pm1 an1 cd1 ct1), sl1⟩) (c1 : PySem.W.codeIn K cd1 "is_shown" = true) (k1 : PySem.W.keepIn K (.ref f1) = true)
    (a2 : PySem.W.nsIn K mainGlobals "quoted" = some (some (.ref f2))) (l2 : K.lookup f2 = some ⟨oc2, od2, .func (PySem.W.fnOf "quoted" "quoted" (defArgs (topS 11)) (defBody (topS 11)) (defScope (topS 11)) .none kV2 dc2 pm2 an2 cd2 ct2), sl2⟩) (c2 : PySem.W.codeIn K cd2 "quoted" = true) (k2 : PySem.W.keepIn K (.ref f2) = true)
    (a3 : PySem.W.nsIn K mainGlobals "show" = some (some (.ref f3))) (l3 : K.lookup f3 = some ⟨oc3, od3, .func (PySem.W.fnOf "show" "show" (defArgs (topS 10)) (defBody (topS 10)) (defScope (topS 10)) .none kV3 dc3 pm3 an3 cd3 ct3), sl3⟩) (c3 : PySem.W.codeIn K cd3 "show" = true) (k3 : PySem.W.keepIn K (.ref f3) = true)
    (a4 : PySem.W.nsIn K mainGlobals "skipped" = some (some (.ref f4))) (l4 : K.lookup f4 = some ⟨oc4, od4, .func (PySem.W.fnOf "skipped" "skipped" (defArgs (topS 13)) (defBody (topS 13)) (defScope (topS 13)) .none kV4 dc4 pm4 an4 cd4 ct4), sl4⟩) (c4 : PySem.W.codeIn K cd4 "skipped" = true) (k4 : PySem.W.keepIn K (.ref f4) = true)
    (a5 : PySem.W.nsIn K mainGlobals "quote_at" = some (some (.ref f5))) (l5 : K.lookup f5 = some ⟨oc5, od5, .func (PySem.W.fnOf "quote_at" "quote_at" (defArgs (topS 16)) (defBody (topS 16)) (defScope (topS 16)) .none kV5 dc5 pm5 an5 cd5 ct5), sl5⟩) (c5 : PySem.W.codeIn K cd5 "quote_at" = true) (k5 : PySem.W.keepIn K (.ref f5) = true)
    (a6 : PySem.W.nsIn K mainGlobals "integer_at" = some (some (.ref f6))) (l6 : K.lookup f6 = some ⟨oc6, od6, .func (PySem.W.fnOf "integer_at" "integer_at" (defArgs (topS 17)) (defBody (topS 17)) (defScope (topS 17)) .none kV6 dc6 pm6 an6 cd6 ct6), sl6⟩) (c6 : PySem.W.codeIn K cd6 "integer_at" = true) (k6 : PySem.W.keepIn K (.ref f6) = true)
    (a7 : PySem.W.nsIn K mainGlobals "tuple_at" = some (some (.ref f7))) (l7 : K.lookup f7 = some ⟨oc7, od7, .func (PySem.W.fnOf "tuple_at" "tuple_at" (defArgs (topS 15)) (defBody (topS 15)) (defScope (topS 15)) .none kV7 dc7 pm7 an7 cd7 ct7), sl7⟩) (c7 : PySem.W.codeIn K cd7 "tuple_at" = true) (k7 : PySem.W.keepIn K (.ref f7) = true)
    (a8 : PySem.W.nsIn K mainGlobals "value_at" = some (some (.ref f8))) (l8 : K.lookup f8 = some ⟨oc8, od8, .func (PySem.W.fnOf "value_at" "value_at" (defArgs (topS 14)) (defBody (topS 14)) (defScope (topS 14)) .none kV8 dc8 pm8 an8 cd8 ct8), sl8⟩) (c8 : PySem.W.codeIn K cd8 "value_at" = true) (k8 : PySem.W.keepIn K (.ref f8) = true)
    (a9 : PySem.W.nsIn K mainGlobals "read_shown" = some (some (.ref f9))) (l9 : K.lookup f9 = some ⟨oc9, od9, .func (PySem.W.fnOf "read_shown" "read_shown" (defArgs (topS 12)) (defBody (topS 12)) (defScope (topS 12)) .none kV9 dc9 pm9 an9 cd9 ct9), sl9⟩) (c9 : PySem.W.codeIn K cd9 "read_shown" = true) (k9 : PySem.W.keepIn K (.ref f9) = true)
    (a10 : PySem.W.nsIn K mainGlobals "_law_next" = some (some (.ref f10))) (l10 : K.lookup f10 = some ⟨oc10, od10, .func (PySem.W.fnOf "_law_next" "_law_next" (defArgs (topS 19)) (defBody (topS 19)) (defScope (topS 19)) .none kV10 dc10 pm10 an10 cd10 ct10), sl10⟩) (c10 : PySem.W.codeIn K cd10 "_law_next" = true) (k10 : PySem.W.keepIn K (.ref f10) = true)
    (a11 : PySem.W.nsIn K mainGlobals "_law_same" = some (some (.ref f11))) (l11 : K.lookup f11 = some ⟨oc11, od11, .func (PySem.W.fnOf "_law_same" "_law_same" (defArgs (topS 20)) (defBody (topS 20)) (defScope (topS 20)) .none kV11 dc11 pm11 an11 cd11 ct11), sl11⟩) (c11 : PySem.W.codeIn K cd11 "_law_same" = true) (k11 : PySem.W.keepIn K (.ref f11) = true)
    (a12 : PySem.W.nsIn K mainGlobals "_law_draw" = some (some (.ref f12))) (l12 : K.lookup f12 = some ⟨oc12, od12, .func (PySem.W.fnOf "_law_draw" "_law_draw" (defArgs (topS 21)) (defBody (topS 21)) (defScope (topS 21)) .none kV12 dc12 pm12 an12 cd12 ct12), sl12⟩) (c12 : PySem.W.codeIn K cd12 "_law_draw" = true) (k12 : PySem.W.keepIn K (.ref f12) = true)
    (a13 : PySem.W.nsIn K mainGlobals "_law_quoted" = some (some (.ref f13))) (l13 : K.lookup f13 = some ⟨oc13, od13, .func (PySem.W.fnOf "_law_quoted" "_law_quoted" (defArgs (topS 22)) (defBody (topS 22)) (defScope (topS 22)) .none kV13 dc13 pm13 an13 cd13 ct13), sl13⟩) (c13 : PySem.W.codeIn K cd13 "_law_quoted" = true) (k13 : PySem.W.keepIn K (.ref f13) = true)
    (a14 : PySem.W.nsIn K mainGlobals "_law_show" = some (some (.ref f14))) (l14 : K.lookup f14 = some ⟨oc14, od14, .func (PySem.W.fnOf "_law_show" "_law_show" (defArgs (topS 23)) (defBody (topS 23)) (defScope (topS 23)) .none kV14 dc14 pm14 an14 cd14 ct14), sl14⟩) (c14 : PySem.W.codeIn K cd14 "_law_show" = true) (k14 : PySem.W.keepIn K (.ref f14) = true)
    (a15 : PySem.W.nsIn K mainGlobals "_law_skip" = some (some (.ref f15))) (l15 : K.lookup f15 = some ⟨oc15, od15, .func (PySem.W.fnOf "_law_skip" "_law_skip" (defArgs (topS 24)) (defBody (topS 24)) (defScope (topS 24)) .none kV15 dc15 pm15 an15 cd15 ct15), sl15⟩) (c15 : PySem.W.codeIn K cd15 "_law_skip" = true) (k15 : PySem.W.keepIn K (.ref f15) = true)
    (a16 : PySem.W.nsIn K mainGlobals "_law_read" = some (some (.ref f16))) (l16 : K.lookup f16 = some ⟨oc16, od16, .func (PySem.W.fnOf "_law_read" "_law_read" (defArgs (topS 25)) (defBody (topS 25)) (defScope (topS 25)) .none kV16 dc16 pm16 an16 cd16 ct16), sl16⟩) (c16 : PySem.W.codeIn K cd16 "_law_read" = true) (k16 : PySem.W.keepIn K (.ref f16) = true)
    (a17 : PySem.W.nsIn K mainGlobals "_law_whole" = some (some (.ref f17))) (l17 : K.lookup f17 = some ⟨oc17, od17, .func (PySem.W.fnOf "_law_whole" "_law_whole" (defArgs (topS 26)) (defBody (topS 26)) (defScope (topS 26)) .none kV17 dc17 pm17 an17 cd17 ct17), sl17⟩) (c17 : PySem.W.codeIn K cd17 "_law_whole" = true) (k17 : PySem.W.keepIn K (.ref f17) = true)
    (a18 : PySem.W.nsIn K mainGlobals "_law_asked" = some (some (.ref f18))) (l18 : K.lookup f18 = some ⟨oc18, od18, .func (PySem.W.fnOf "_law_asked" "_law_asked" (defArgs (topS 27)) (defBody (topS 27)) (defScope (topS 27)) .none kV18 dc18 pm18 an18 cd18 ct18), sl18⟩) (c18 : PySem.W.codeIn K cd18 "_law_asked" = true) (k18 : PySem.W.keepIn K (.ref f18) = true)
    (a19 : PySem.W.nsIn K mainGlobals "law" = some (some (.ref f19))) (l19 : K.lookup f19 = some ⟨oc19, od19, .func (PySem.W.fnOf "law" "law" (defArgs (topS 28)) (defBody (topS 28)) (defScope (topS 28)) .none kV19 dc19 pm19 an19 cd19 ct19), sl19⟩) (c19 : PySem.W.codeIn K cd19 "law" = true) (k19 : PySem.W.keepIn K (.ref f19) = true)
    (z0 : PySem.W.nsIn K mainGlobals "abs" = some none)
    (z1 : PySem.W.nsIn K mainGlobals "all" = some none)
    (z2 : PySem.W.nsIn K mainGlobals "bool" = some none)
    (z3 : PySem.W.nsIn K mainGlobals "int" = some none)
    (z4 : PySem.W.nsIn K mainGlobals "isinstance" = some none)
    (z5 : PySem.W.nsIn K mainGlobals "len" = some none)
    (z6 : PySem.W.nsIn K mainGlobals "list" = some none)
    (z7 : PySem.W.nsIn K mainGlobals "range" = some none)
    (z8 : PySem.W.nsIn K mainGlobals "str" = some none)
    (z9 : PySem.W.nsIn K mainGlobals "tuple" = some none)
    (y0 : PySem.W.nsIn K mainGlobals "LARGEST" = some (some (.int 10000000000000000000000000000000000000000 t0)))
    (y1 : PySem.W.nsIn K mainGlobals "MOST_DIGITS" = some (some (.int 40 t1)))
    (y2 : PySem.W.nsIn K mainGlobals "MOST_NESTED" = some (some (.int 20 t2))) :
    ∃ fd : FuncData, (∀ (s : Shared) (v : Value), BindsTo s fd ⟨[v], []⟩ [("script", v)]) ∧ ∀ base : Heap, K.In base → base.Ns mainGlobals mg → FnOk l.prog w K mg base (L2.CX l.prog w) 50 fa fd ["script"] (spLaw K) := by
  have e := hfa.symm.trans (PySem.W.mg_of X G a19)
  cases e
  have GG : GK K mg := gk_mk X G a0 l0 c0 k0 a1 l1 c1 k1 a2 l2 c2 k2 a3 l3 c3 k3 a4 l4 c4 k4 a5 l5 c5 k5 a6 l6 c6 k6 a7 l7 c7 k7 a8 l8 c8 k8 a9 l9 c9 k9 a10 l10 c10 k10 a11 l11 c11 k11 a12 l12 c12 k12 a13 l13 c13 k13 a14 l14 c14 k14 a15 l15 c15 k15 a16 l16 c16 k16 a17 l17 c17 k17 a18 l18 c18 k18 a19 l19 c19 k19 z0 z1 z2 z3 z4 z5 z6 z7 z8 z9 y0 y1 y2
  refine ⟨_, fun s v => .of_eq rfl, fun base _ _ => FnOk.imp (ok_law GG Z (fun_mk (st := s_law) l19 c19 k19)) (law_imp law_true)⟩
end K80
open PySem PySem.W PyProof.Rows
set_option maxHeartbeats 0 in
theorem PySem.Challenge.cw_chiptrue_k80_whole_values_as_texts_holds : PySem.Challenge.rw_chiptrue_k80_whole_values_as_texts.Holds := by
  w_on; o_law; k_head; (case hw => w_witness2)
  k_fill
  refine L2.walk_of (l := PySem.Challenge.rw_chiptrue_k80_whole_values_as_texts) (n := 63) (k := 50) (x := "script") (CX := fun w => L2.CX PySem.Challenge.rw_chiptrue_k80_whole_values_as_texts.prog w) (sp := fun w => Fx.spLaw _) rfl (by decide) rfl ⟨rfl, by decide, by decide⟩ (fun w h Y => PySem.W.kIn_of Y) ?F (fun _ _ a ns hl hO hS => ⟨a, ns, rfl, hO, hS, hl, fun _ => rfl⟩) (fun w H s e s' h => Fx.hCX H s e s' h)
  case F =>
    intro w mg fa h KX G hmg
    refine' K80.all_mk (l := PySem.Challenge.rw_chiptrue_k80_whole_values_as_texts) KX G hmg ⟨⟨_, _, _, _, _, _, Fx.excAt_mk KX G ?xa0 ?xl0 ?xrv0 ?xsa0 ?xbe0 ?xty0 ?xkp0 ?xiC0 ?xtI0 ?xfn0 ?xlf0 ?xco0 ?xlc0 ?xvf0 ?xpf0 ?xlcc0 ?xlcl0 ?xzs0 ?xtp0 rfl rfl rfl rfl rfl rfl (by decide +kernel) (by decide +kernel) ?xhp0 ?xhn0 ?xga0 ?xgg0 ?xhd0 ?xth0 ?xve0, Fx.excAt_mk KX G ?xa1 ?xl1 ?xrv1 ?xsa1 ?xbe1 ?xty1 ?xkp1 ?xiC1 ?xtI1 ?xfn1 ?xlf1 ?xco1 ?xlc1 ?xvf1 ?xpf1 ?xlcc1 ?xlcl1 ?xzs1 ?xtp1 rfl rfl rfl rfl rfl rfl (by decide +kernel) (by decide +kernel) ?xhp1 ?xhn1 ?xga1 ?xgg1 ?xhd1 ?xth1 ?xve1, ?xb1, ?xb2, ?xb3, ?xb4, ?xb5, ?xb6, ?xb9, ?xc10⟩, K80.short_mk KX G ?ka ?kl ?kt ?ko ?kv0 ?kv1 ?kv2 ?kv3 ?kb⟩ ?a0 ?l0 ?c0 ?k0 ?a1 ?l1 ?c1 ?k1 ?a2 ?l2 ?c2 ?k2 ?a3 ?l3 ?c3 ?k3 ?a4 ?l4 ?c4 ?k4 ?a5 ?l5 ?c5 ?k5 ?a6 ?l6 ?c6 ?k6 ?a7 ?l7 ?c7 ?k7 ?a8 ?l8 ?c8 ?k8 ?a9 ?l9 ?c9 ?k9 ?a10 ?l10 ?c10 ?k10 ?a11 ?l11 ?c11 ?k11 ?a12 ?l12 ?c12 ?k12 ?a13 ?l13 ?c13 ?k13 ?a14 ?l14 ?c14 ?k14 ?a15 ?l15 ?c15 ?k15 ?a16 ?l16 ?c16 ?k16 ?a17 ?l17 ?c17 ?k17 ?a18 ?l18 ?c18 ?k18 ?a19 ?l19 ?c19 ?k19 ?z0 ?z1 ?z2 ?z3 ?z4 ?z5 ?z6 ?z7 ?z8 ?z9 ?y0 ?y1 ?y2
    (case a0 => k_is); (case l0 => k_is); (case c0 => k_is); (case k0 => k_is); (case a1 => k_is); (case l1 => k_is); (case c1 => k_is); (case k1 => k_is); (case a2 => k_is); (case l2 => k_is); (case c2 => k_is); (case k2 => k_is); (case a3 => k_is); (case l3 => k_is); (case c3 => k_is); (case k3 => k_is); (case a4 => k_is); (case l4 => k_is); (case c4 => k_is); (case k4 => k_is); (case a5 => k_is); (case l5 => k_is); (case c5 => k_is); (case k5 => k_is); (case a6 => k_is); (case l6 => k_is); (case c6 => k_is); (case k6 => k_is); (case a7 => k_is); (case l7 => k_is); (case c7 => k_is); (case k7 => k_is); (case a8 => k_is); (case l8 => k_is); (case c8 => k_is); (case k8 => k_is); (case a9 => k_is); (case l9 => k_is); (case c9 => k_is); (case k9 => k_is); (case a10 => k_is); (case l10 => k_is); (case c10 => k_is); (case k10 => k_is); (case a11 => k_is); (case l11 => k_is); (case c11 => k_is); (case k11 => k_is); (case a12 => k_is); (case l12 => k_is); (case c12 => k_is); (case k12 => k_is); (case a13 => k_is); (case l13 => k_is); (case c13 => k_is); (case k13 => k_is); (case a14 => k_is); (case l14 => k_is); (case c14 => k_is); (case k14 => k_is); (case a15 => k_is); (case l15 => k_is); (case c15 => k_is); (case k15 => k_is); (case a16 => k_is); (case l16 => k_is); (case c16 => k_is); (case k16 => k_is); (case a17 => k_is); (case l17 => k_is); (case c17 => k_is); (case k17 => k_is); (case a18 => k_is); (case l18 => k_is); (case c18 => k_is); (case k18 => k_is); (case a19 => k_is); (case l19 => k_is); (case c19 => k_is); (case k19 => k_is); (case z0 => k_is); (case z1 => k_is); (case z2 => k_is); (case z3 => k_is); (case z4 => k_is); (case z5 => k_is); (case z6 => k_is); (case z7 => k_is); (case z8 => k_is); (case z9 => k_is); (case y0 => k_is); (case y1 => k_is); (case y2 => k_is)
    (case xa0 => k_is); (case xl0 => k_is); (case xrv0 => decide +kernel); (case xsa0 => k_is); (case xbe0 => k_is); (case xty0 => k_is); (case xkp0 => k_is); (case xiC0 => k_is); (case xtI0 => k_is); (case xfn0 => k_is); (case xlf0 => k_is); (case xco0 => k_is); (case xlc0 => k_is); (case xvf0 => rfl); (case xpf0 => decide +kernel); (case xlcc0 => k_is); (case xlcl0 => k_is); (case xzs0 => k_is); (case xtp0 => decide +kernel); (case xhp0 => k_is); (case xhn0 => k_is); (case xga0 => k_is); (case xgg0 => k_is); (case xhd0 => k_is); (case xth0 => k_is); (case xve0 => k_is)
    (case xa1 => k_is); (case xl1 => k_is); (case xrv1 => decide +kernel); (case xsa1 => k_is); (case xbe1 => k_is); (case xty1 => k_is); (case xkp1 => k_is); (case xiC1 => k_is); (case xtI1 => k_is); (case xfn1 => k_is); (case xlf1 => k_is); (case xco1 => k_is); (case xlc1 => k_is); (case xvf1 => rfl); (case xpf1 => decide +kernel); (case xlcc1 => k_is); (case xlcl1 => k_is); (case xzs1 => k_is); (case xtp1 => decide +kernel); (case xhp1 => k_is); (case xhn1 => k_is); (case xga1 => k_is); (case xgg1 => k_is); (case xhd1 => k_is); (case xth1 => k_is); (case xve1 => k_is)
    (case xb1 => k_is); (case xb2 => refine' Fx.sup_ve ?up2 ?uq2; (case up2 => k_is); (case uq2 => rfl)); (case xb3 => k_is); (case xb4 => refine' Fx.sup_own ?up4 ?uq4 ?ur4 ?us4; (case up4 => k_is); (case uq4 => rfl); (case ur4 => k_is); (case us4 => k_is)); (case xb5 => k_is); (case xb6 => refine' Fx.sup_ve ?up6 ?uq6; (case up6 => k_is); (case uq6 => rfl))
    (case xb9 => refine' Fx.exm_mk ?up9 ?uq9 ?ur9 ?us9; (case up9 => k_is); (case uq9 => k_is); (case ur9 => k_is); (case us9 => k_is)); (case xc10 => refine' Fx.exm_mk ?up10 ?uq10 ?ur10 ?us10; (case up10 => k_is); (case uq10 => k_is); (case ur10 => k_is); (case us10 => k_is))
    (case ka => k_is); (case kl => k_is); (case kt => first | exact ⟨⟨_, _, rfl, rfl⟩, ⟨_, _, rfl, rfl⟩, ⟨_, _, rfl, rfl⟩, ⟨_, _, rfl, rfl⟩, trivial⟩ | k_is); (case ko => first | decide +kernel | k_is); (case kv0 => k_is); (case kv1 => k_is); (case kv2 => k_is); (case kv3 => k_is); (case kb => first | rfl | k_is)
