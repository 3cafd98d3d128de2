import PyProof.Rows.All
import HandS.ForMost
import HandS.ForExc
import HandS.Conv
import HandS.Wide
import HandS.TupAny
import HandS.IsInst
import HandS.CallSlots
import HandS.Lambda
import HandS.Flow
import HandS.WideBits
import KE.KTupSum
import HandS.Iter
import HandS.Style
import HandS.ExcInit
import HandS.ExcField
import HandS.ExcOwn
import HandS.TryMany
import HandS.ClsMeth
import HandS.More
import KE.KExcSuper
import HandS.Text
import HandS.RaiseMore
import HandS.Dict
import HandS.WordsDict
import PyProof.EqKinds
import HandS.SetBool
import PyProof.DictTable
import KE.KBits
import KE.BitLaws
import HandS.ExcIs
import HandS.EndTab
import KE.KNestM
import PySem.Challenge.RW_chiptrue_k00_errors
set_option Elab.async false
set_option linter.all false
set_option maxRecDepth 100000
set_option maxHeartbeats 4000000
namespace Fx
abbrev St := L2.St
open PySem PySem.Spec PyProof.Rows L2

/-! ### data -/
inductive D where
  | non | bl (b : Bool) | int (i : Int) | str (x : List Nat) | tup (l : List D) | cst (l : List D) | loc (n : Nat) | adr (a : Nat) | lam (f c : Nat) (q : Str)
inductive Cell where
  | lst (xs : List D) | dic (kvs : List (Key × D)) | ins (c : String) (fs : List (String × D)) | tab (P : Addr) (q : Str)
structure Ex where
  cls : String
  fs : List (String × D)
inductive Res (α : Type) where
  | ok (a : α) (S : List Cell) | exc (x : Ex) (S : List Cell) | stk
def Res.bind {α β : Type} (r : Res α) (f : α → List Cell → Res β) : Res β := match r with
  | .ok a S => f a S
  | .exc x S => .exc x S
  | .stk => .stk
abbrev Mu := List Addr
/-- a list that nobody changes: known to the object, or the module's own -/
def SqF (K : PySem.W.Frag) (H : Hp) (a : Addr) (xs : List V) : Prop :=
  (∃ o, H a = some (.frz o (.lst xs))) ∨
    ∃ (o : Obj) (its : Array Value) (n : Nat), K.lookup a = some o ∧ o.cls = .type "list" ∧ o.dict = none ∧ o.data = .seq its n ∧ its.size ≤ sizeLine ∧ Vals xs its.toList
theorem SqF.sq {K : PySem.W.Frag} {H : Hp} {a : Addr} {xs : List V} (h : SqF K H a xs) : SqL K H a xs := by
  rcases h with ⟨o, h⟩ | h
  · exact .inl (.inr ⟨o, h⟩)
  · exact .inr h

mutual
inductive RepV (K : PySem.W.Frag) (μ : Mu) (H : Hp) : D → V → Prop
  | non : RepV K μ H .non .non
  | bl (b : Bool) : RepV K μ H (.bl b) (.bl b)
  | int (i : Int) : RepV K μ H (.int i) (.int i)
  | str (x : List Nat) : RepV K μ H (.str x) (.str ⟨x.toArray⟩)
  | tup {a : Addr} {ds : List D} {vs : List V} : SqT K H a vs → RepL K μ H ds vs → RepV K μ H (.tup ds) (.ref a)
  | cst {a : Addr} {ds : List D} {vs : List V} : SqF K H a vs → RepL K μ H ds vs → RepV K μ H (.cst ds) (.ref a)
  | loc {n : Nat} {a : Addr} : μ[n]? = some a → RepV K μ H (.loc n) (.ref a)
  | adr (a : Addr) : RepV K μ H (.adr a) (.ref a)
  | lam {f c : Addr} {q : Str} : H c = some (LamX.CodeO c q) → RepV K μ H (.lam f c q) (.ref f)
inductive RepL (K : PySem.W.Frag) (μ : Mu) (H : Hp) : List D → List V → Prop
  | nil : RepL K μ H [] []
  | cons {d : D} {v : V} {ds : List D} {vs : List V} : RepV K μ H d v → RepL K μ H ds vs → RepL K μ H (d :: ds) (v :: vs)
end

/-- what a value's reading leans on stays -/
structure UpR (μ : Mu) (H : Hp) (μ' : Mu) (H' : Hp) : Prop where
  mu : ∀ (n : Nat) (a : Addr), μ[n]? = some a → μ'[n]? = some a
  tup : ∀ (b : Addr) (xs : List V), H b = some (.tup xs) → H' b = some (.tup xs)
  frz : ∀ (b : Addr) (o : Obj) (u : HO), H b = some (.frz o u) → H' b = some (.frz o u)
  ext : ∀ (b : Addr) (p : Heap → Prop), H b = some (.ext p) → H' b = some (.ext p)
/-- the way from a heap to a later one: what is no cell stays as it is, new cells are new objects -/
structure Up (μ : Mu) (H : Hp) (μ' : Mu) (H' : Hp) : Prop extends UpR μ H μ' H' where
  rest : ∀ (b : Addr) (o : HO), H b = some o → b ∉ μ → H' b = some o
  fresh : ∀ b, b ∈ μ' → b ∈ μ ∨ H b = none
theorem UpR.refl {μ : Mu} {H : Hp} : UpR μ H μ H := ⟨fun _ _ h => h, fun _ _ h => h, fun _ _ _ h => h, fun _ _ h => h⟩
theorem Up.refl {μ : Mu} {H : Hp} : Up μ H μ H := ⟨.refl, fun _ _ h _ => h, fun _ h => .inl h⟩
theorem UpR.trans {μ μ1 μ2 : Mu} {H H1 H2 : Hp} (a : UpR μ H μ1 H1) (b : UpR μ1 H1 μ2 H2) : UpR μ H μ2 H2 :=
  ⟨fun n x h => b.mu n x (a.mu n x h), fun n x h => b.tup n x (a.tup n x h), fun n x u h => b.frz n x u (a.frz n x u h), fun n x h => b.ext n x (a.ext n x h)⟩
theorem Up.back {μ μ1 : Mu} {H H1 : Hp} (a : Up μ H μ1 H1) {b : Addr} (h : H1 b = none) : b ∈ μ ∨ H b = none := by
  cases q : H b with
  | none => exact .inr rfl
  | some o =>
    by_cases hb : b ∈ μ
    · exact .inl hb
    · rw [a.rest b o q hb] at h; cases h
theorem Up.off {μ μ1 : Mu} {H H1 : Hp} (a : Up μ H μ1 H1) {b : Addr} {o : HO} (h : H b = some o) (hb : b ∉ μ) : b ∉ μ1 := fun hm => by
  rcases a.fresh b hm with z | z
  · exact hb z
  · rw [h] at z; cases z
theorem Up.trans {μ μ1 μ2 : Mu} {H H1 H2 : Hp} (a : Up μ H μ1 H1) (b : Up μ1 H1 μ2 H2) : Up μ H μ2 H2 where
  toUpR := a.toUpR.trans b.toUpR
  rest := fun x o h hx => b.rest x o (a.rest x o h hx) (a.off h hx)
  fresh := fun x hx => (b.fresh x hx).elim (a.fresh x) a.back
theorem UpR.sqT {K : PySem.W.Frag} {μ μ' : Mu} {H H' : Hp} {a : Addr} {xs : List V} (u : UpR μ H μ' H') (h : SqT K H a xs) : SqT K H' a xs := by
  rcases h with (h | ⟨o, h⟩) | h
  · exact .inl (.inl (u.tup _ _ h))
  · exact .inl (.inr ⟨o, u.frz _ _ _ h⟩)
  · exact .inr h
theorem UpR.sqF {K : PySem.W.Frag} {μ μ' : Mu} {H H' : Hp} {a : Addr} {xs : List V} (u : UpR μ H μ' H') (h : SqF K H a xs) : SqF K H' a xs := by
  rcases h with ⟨o, h⟩ | h
  · exact .inl ⟨o, u.frz _ _ _ h⟩
  · exact .inr h
mutual
theorem RepV.upR {K : PySem.W.Frag} {μ μ' : Mu} {H H' : Hp} (u : UpR μ H μ' H') : ∀ {d : D} {v : V}, RepV K μ H d v → RepV K μ' H' d v
  | _, _, .non => .non
  | _, _, .bl b => .bl b
  | _, _, .int i => .int i
  | _, _, .str x => .str x
  | _, _, .tup h r => .tup (u.sqT h) (RepL.upR u r)
  | _, _, .cst h r => .cst (u.sqF h) (RepL.upR u r)
  | _, _, .loc h => .loc (u.mu _ _ h)
  | _, _, .adr a => .adr a
  | _, _, .lam h => .lam (u.ext _ _ h)
theorem RepL.upR {K : PySem.W.Frag} {μ μ' : Mu} {H H' : Hp} (u : UpR μ H μ' H') : ∀ {ds : List D} {vs : List V}, RepL K μ H ds vs → RepL K μ' H' ds vs
  | _, _, .nil => .nil
  | _, _, .cons h r => .cons (RepV.upR u h) (RepL.upR u r)
end
theorem RepV.up {K : PySem.W.Frag} {μ μ' : Mu} {H H' : Hp} {d : D} {v : V} (h : RepV K μ H d v) (u : Up μ H μ' H') : RepV K μ' H' d v := h.upR u.toUpR
theorem RepL.up {K : PySem.W.Frag} {μ μ' : Mu} {H H' : Hp} {ds : List D} {vs : List V} (h : RepL K μ H ds vs) (u : Up μ H μ' H') : RepL K μ' H' ds vs := h.upR u.toUpR
section
variable {K : PySem.W.Frag} {μ μ' : Mu} {H H' : Hp}
theorem RepL.length : ∀ {ds : List D} {vs : List V}, RepL K μ H ds vs → ds.length = vs.length
  | _, _, .nil => rfl
  | _, _, .cons _ r => by simp [RepL.length r]
theorem RepL.get : ∀ {ds : List D} {vs : List V} {i : Nat} {v : V}, RepL K μ H ds vs → vs[i]? = some v → ∃ d, ds[i]? = some d ∧ RepV K μ H d v
  | _, _, _, _, .nil, e => by simp at e
  | _, _, 0, _, .cons h _, e => by simp at e; subst e; exact ⟨_, rfl, h⟩
  | _, _, i + 1, _, .cons _ r, e => by
    obtain ⟨d, e1, e2⟩ := RepL.get (i := i) r (by simpa using e)
    exact ⟨d, by simpa using e1, e2⟩
theorem RepL.getD : ∀ {ds : List D} {vs : List V} {i : Nat} {d : D}, RepL K μ H ds vs → ds[i]? = some d → ∃ v, vs[i]? = some v ∧ RepV K μ H d v
  | _, _, _, _, .nil, e => by simp at e
  | _, _, 0, _, .cons h _, e => by simp at e; subst e; exact ⟨_, rfl, h⟩
  | _, _, i + 1, _, .cons _ r, e => by
    obtain ⟨d, e1, e2⟩ := RepL.getD (i := i) r (by simpa using e)
    exact ⟨d, by simpa using e1, e2⟩
theorem RepL.append : ∀ {ds es : List D} {vs ws : List V}, RepL K μ H ds vs → RepL K μ H es ws → RepL K μ H (ds ++ es) (vs ++ ws)
  | _, _, _, _, .nil, q => q
  | _, _, _, _, .cons h r, q => .cons h (RepL.append r q)
theorem RepL.snoc {ds : List D} {vs : List V} {d : D} {v : V} (r : RepL K μ H ds vs) (h : RepV K μ H d v) : RepL K μ H (ds ++ [d]) (vs ++ [v]) := r.append (.cons h .nil)
theorem RepL.drop : ∀ {ds : List D} {vs : List V} (n : Nat), RepL K μ H ds vs → RepL K μ H (ds.drop n) (vs.drop n)
  | _, _, 0, r => r
  | _, _, _ + 1, .nil => .nil
  | _, _, n + 1, .cons _ r => RepL.drop n r
theorem RepL.take : ∀ {ds : List D} {vs : List V} (n : Nat), RepL K μ H ds vs → RepL K μ H (ds.take n) (vs.take n)
  | _, _, 0, _ => .nil
  | _, _, _ + 1, .nil => .nil
  | _, _, n + 1, .cons h r => .cons h (RepL.take n r)
theorem RepL.set {d : D} {v : V} (h : RepV K μ H d v) : ∀ {ds : List D} {vs : List V} (i : Nat), RepL K μ H ds vs → RepL K μ H (ds.set i d) (vs.set i v)
  | _, _, _, .nil => .nil
  | _, _, 0, .cons _ r => .cons h r
  | _, _, i + 1, .cons q r => .cons q (RepL.set h i r)
end

/-! ### cells, the store -/
def CellOk (mg : Str → Option Value) (K : PySem.W.Frag) (μ : Mu) (H : Hp) (a : Addr) : Cell → Prop
  | .lst xs => ∃ vs, H a = some (.lst vs) ∧ RepL K μ H xs vs
  | .dic kvs => ∃ ws : List (Key × V), H a = some (.dK ws) ∧ ws.map (·.1) = kvs.map (·.1) ∧ RepL K μ H (kvs.map (·.2)) (ws.map (·.2))
  | .ins c fs => ∃ (C dx : Addr) (ws : List (Str × V)), mg (Str.ofString c) = some (.ref C) ∧ H a = some (.ins C dx ws) ∧ ws.map (·.1) = fs.map (fun p => Str.ofString p.1) ∧ RepL K μ H (fs.map (·.2)) (ws.map (·.2))
  | .tab P q => a = P ∧ LamX.TabS H P q
structure StoRep (mg : Str → Option Value) (K : PySem.W.Frag) (μ : Mu) (S : List Cell) (H : Hp) : Prop where
  nd : μ.Nodup
  len : μ.length = S.length
  at_ : ∀ (n : Nat) (c : Cell) (a : Addr), S[n]? = some c → μ[n]? = some a → CellOk mg K μ H a c
abbrev Sl := List (Option D)
structure SlRep (K : PySem.W.Frag) (μ : Mu) (H : Hp) (sd : Sl) (σ : St) : Prop where
  len : sd.length = σ.length
  at_ : ∀ (i : Nat) (d : D), sd[i]? = some (some d) → ∃ v, σ[i]? = some (some v) ∧ RepV K μ H d v
section
variable {mg : Str → Option Value} {K : PySem.W.Frag} {μ μ' : Mu} {S : List Cell} {H H' : Hp} {a p : Addr} {sd : Sl} {σ : St}
theorem CellOk.some {c : Cell} (h : CellOk mg K μ H a c) : ∃ o, H a = some o := by
  cases c with
  | lst xs => obtain ⟨vs, h, _⟩ := h; exact ⟨_, h⟩
  | dic kvs => obtain ⟨ws, h, _⟩ := h; exact ⟨_, h⟩
  | ins c fs => obtain ⟨C, dx, ws, _, h, _⟩ := h; exact ⟨_, h⟩
  | tab P q => obtain ⟨rfl, ps, h, _⟩ := h; exact ⟨_, h⟩
theorem StoRep.here (h : StoRep mg K μ S H) {n : Nat} (e : μ[n]? = some a) : ∃ c, S[n]? = some c ∧ CellOk mg K μ H a c := by
  have hl : n < S.length := by
    have := (List.getElem?_eq_some_iff.mp e).1
    rw [h.len] at this; exact this
  exact ⟨S[n], by simp [hl], h.at_ n _ a (by simp [hl]) e⟩
theorem StoRep.new (h : StoRep mg K μ S H) (hp : H p = none) : p ∉ μ := fun hm => by
  obtain ⟨n, hn⟩ := List.mem_iff_getElem?.mp hm
  obtain ⟨c, _, hc⟩ := h.here hn
  obtain ⟨o, e⟩ := hc.some
  rw [hp] at e; cases e
theorem upR_tmp {o : HO} (hp : H p = none) : UpR μ H μ (upd H p o) where
  mu := fun n a e => e
  tup := fun b xs e => by rw [upd_ne (ne_of_none e hp)]; exact e
  frz := fun b x u e => by rw [upd_ne (ne_of_none e hp)]; exact e
  ext := fun b x e => by rw [upd_ne (ne_of_none e hp)]; exact e
theorem up_tmp {o : HO} (hp : H p = none) : Up μ H μ (upd H p o) where
  toUpR := upR_tmp hp
  rest := fun b x e _ => by rw [upd_ne (ne_of_none e hp)]; exact e
  fresh := fun b h => .inl h
/-- a new object becomes a cell -/
theorem Up.adopt (u : Up μ H μ' H') (hp : H p = none) : Up μ H (μ' ++ [p]) H' where
  mu := fun n a e => by
    have e' := u.mu n a e
    rw [List.getElem?_append_left (List.getElem?_eq_some_iff.mp e').1]; exact e'
  tup := u.tup
  frz := u.frz
  ext := u.ext
  rest := u.rest
  fresh := fun b h => by
    rcases List.mem_append.mp h with h | h
    · exact u.fresh b h
    · rw [List.mem_singleton] at h; subst h; exact .inr hp
theorem up_new {o : HO} (hp : H p = none) : Up μ H (μ ++ [p]) (upd H p o) := (up_tmp hp).adopt hp
/-- a cell is not touched: its own address and what it holds stay -/
theorem CellOk.keep {c : Cell} (h : CellOk mg K μ H a c) (u : UpR μ H μ' H') (e : H' a = H a) : CellOk mg K μ' H' a c := by
  cases c with
  | lst xs => obtain ⟨vs, h, r⟩ := h; exact ⟨vs, by rw [e]; exact h, r.upR u⟩
  | dic kvs => obtain ⟨ws, h, k, r⟩ := h; exact ⟨ws, by rw [e]; exact h, k, r.upR u⟩
  | ins c fs => obtain ⟨C, dx, ws, m, h, k, r⟩ := h; exact ⟨C, dx, ws, m, by rw [e]; exact h, k, r.upR u⟩
  | tab P q =>
    obtain ⟨rfl, ps, h1, h2, h3⟩ := h
    exact ⟨rfl, ps, by rw [e]; exact h1, h2, fun pos cv hc => let ⟨c, e1, e2⟩ := h3 pos cv hc; ⟨c, e1, u.ext _ _ e2⟩⟩
/-- a thing that is not in the store comes up -/
theorem StoRep.tmp {o : HO} (h : StoRep mg K μ S H) (hp : H p = none) : StoRep mg K μ S (upd H p o) where
  nd := h.nd
  len := h.len
  at_ := fun n c a e1 e2 => (h.at_ n c a e1 e2).keep (upR_tmp hp) (upd_ne fun z => h.new hp (by rw [← z]; exact List.mem_of_getElem? e2))
theorem StoRep.alloc {o : HO} {c : Cell} (h : StoRep mg K μ S H) (hp : H p = none) (hc : CellOk mg K (μ ++ [p]) (upd H p o) p c) : StoRep mg K (μ ++ [p]) (S ++ [c]) (upd H p o) where
  nd := by
    rw [List.nodup_append]
    refine ⟨h.nd, by simp, fun x hx y hy e => ?_⟩
    rw [List.mem_singleton] at hy
    subst hy; subst e
    exact h.new hp hx
  len := by simp [h.len]
  at_ := fun n c' a e1 e2 => by
    by_cases hn : n < S.length
    · have e1' : S[n]? = some c' := by rw [← e1, List.getElem?_append_left hn]
      have e2' : μ[n]? = some a := by rw [← e2, List.getElem?_append_left (by rw [h.len]; exact hn)]
      exact (h.at_ n c' a e1' e2').keep (up_new hp).toUpR (upd_ne fun z => h.new hp (by rw [← z]; exact List.mem_of_getElem? e2'))
    · have hn' : n = S.length := by
        have := (List.getElem?_eq_some_iff.mp e1).1
        simp at this; omega
      subst hn'
      have z1 : c = c' := by simpa using e1
      have z2 : p = a := by
        have := h.len
        rw [← this] at e2; simpa using e2
      subst z1; subst z2
      exact hc
theorem up_put {o : HO} {vs : List V} (hm : a ∈ μ) (e : H a = some (.lst vs)) : Up μ H μ (upd H a o) where
  mu := fun n a e => e
  tup := fun b xs q => by rw [upd_ne (ne_of q e (by intro z; cases z))]; exact q
  frz := fun b x u q => by rw [upd_ne (ne_of q e (by intro z; cases z))]; exact q
  ext := fun b x q => by rw [upd_ne (ne_of q e (by intro z; cases z))]; exact q
  rest := fun b x q hb => by rw [upd_ne (fun z => hb (by rw [z]; exact hm))]; exact q
  fresh := fun b h => .inl h
/-- a list that is no cell is changed -/
theorem upR_other {o : HO} {vs : List V} (e : H a = some (.lst vs)) : UpR μ H μ (upd H a o) where
  mu := fun n a e => e
  tup := fun b xs q => by rw [upd_ne (ne_of q e (by intro z; cases z))]; exact q
  frz := fun b x u q => by rw [upd_ne (ne_of q e (by intro z; cases z))]; exact q
  ext := fun b x q => by rw [upd_ne (ne_of q e (by intro z; cases z))]; exact q
theorem Up.other {o : HO} {vs : List V} (u : Up μ H μ' H') (h0 : H a = none) (e : H' a = some (.lst vs)) : Up μ H μ' (upd H' a o) where
  toUpR := u.toUpR.trans (upR_other e)
  rest := fun b x q hb => by rw [upd_ne (ne_of_none q h0)]; exact u.rest b x q hb
  fresh := u.fresh
theorem StoRep.other {o : HO} {vs : List V} (h : StoRep mg K μ S H) (hm : a ∉ μ) (e : H a = some (.lst vs)) : StoRep mg K μ S (upd H a o) where
  nd := h.nd
  len := h.len
  at_ := fun n c b e1 e2 => (h.at_ n c b e1 e2).keep (upR_other e) (upd_ne fun z => hm (by rw [← z]; exact List.mem_of_getElem? e2))
theorem StoRep.put {vs vs' : List V} {ds : List D} {n : Nat} (h : StoRep mg K μ S H) (e : μ[n]? = some a) (ha : H a = some (.lst vs)) (r : RepL K μ H ds vs') : StoRep mg K μ (S.set n (.lst ds)) (upd H a (.lst vs')) where
  nd := h.nd
  len := by simp [h.len]
  at_ := fun m c b e1 e2 => by
    have u : Up μ H μ (upd H a (.lst vs')) := up_put (List.mem_of_getElem? e) ha
    have hl : n < S.length := by
      have := (List.getElem?_eq_some_iff.mp e).1
      rw [h.len] at this; exact this
    by_cases hm : m = n
    · subst hm
      rw [e] at e2; cases e2
      rw [List.getElem?_set_self hl] at e1; cases e1
      exact ⟨vs', upd_same, r.up u⟩
    · rw [List.getElem?_set_ne (Ne.symm hm)] at e1
      refine (h.at_ m c b e1 e2).keep u.toUpR (upd_ne fun z => ?_)
      subst z
      have h1 := (List.getElem?_eq_some_iff.mp e)
      have h2 := (List.getElem?_eq_some_iff.mp e2)
      obtain ⟨l1, g1⟩ := h1
      obtain ⟨l2, g2⟩ := h2
      exact hm ((List.getElem_inj h.nd).mp (g2.trans g1.symm))
/-- a cell is written -/
theorem up_mut {o : HO} (hm : a ∈ μ) (h1 : ∀ xs, H a ≠ some (.tup xs)) (h2 : ∀ x u, H a ≠ some (.frz x u)) (h3 : ∀ p, H a ≠ some (.ext p)) : Up μ H μ (upd H a o) where
  mu := fun n a e => e
  tup := fun b xs q => by rw [upd_ne (fun z => h1 xs (by rw [← z]; exact q))]; exact q
  frz := fun b x u q => by rw [upd_ne (fun z => h2 x u (by rw [← z]; exact q))]; exact q
  ext := fun b x q => by rw [upd_ne (fun z => h3 x (by rw [← z]; exact q))]; exact q
  rest := fun b x q hb => by rw [upd_ne (fun z => hb (by rw [z]; exact hm))]; exact q
  fresh := fun b h => .inl h
theorem StoRep.mut {o : HO} {c' : Cell} {n : Nat} (h : StoRep mg K μ S H) (e : μ[n]? = some a) (h1 : ∀ xs, H a ≠ some (.tup xs)) (h2 : ∀ x u, H a ≠ some (.frz x u)) (h3 : ∀ p, H a ≠ some (.ext p)) (hc : CellOk mg K μ (upd H a o) a c') : StoRep mg K μ (S.set n c') (upd H a o) where
  nd := h.nd
  len := by simp [h.len]
  at_ := fun m c b e1 e2 => by
    have u : Up μ H μ (upd H a o) := up_mut (List.mem_of_getElem? e) h1 h2 h3
    have hl : n < S.length := by
      have := (List.getElem?_eq_some_iff.mp e).1
      rw [h.len] at this; exact this
    by_cases hm : m = n
    · subst hm
      rw [e] at e2; cases e2
      rw [List.getElem?_set_self hl] at e1; cases e1
      exact hc
    · rw [List.getElem?_set_ne (Ne.symm hm)] at e1
      refine (h.at_ m c b e1 e2).keep u.toUpR (upd_ne fun z => ?_)
      subst z
      obtain ⟨l1, g1⟩ := List.getElem?_eq_some_iff.mp e
      obtain ⟨l2, g2⟩ := List.getElem?_eq_some_iff.mp e2
      exact hm ((List.getElem_inj h.nd).mp (g2.trans g1.symm))
theorem SlRep.upR (h : SlRep K μ H sd σ) (u : UpR μ H μ' H') : SlRep K μ' H' sd σ := ⟨h.len, fun i d e => let ⟨v, e1, r⟩ := h.at_ i d e; ⟨v, e1, r.upR u⟩⟩
theorem SlRep.up (h : SlRep K μ H sd σ) (u : Up μ H μ' H') : SlRep K μ' H' sd σ := ⟨h.len, fun i d e => let ⟨v, e1, r⟩ := h.at_ i d e; ⟨v, e1, r.up u⟩⟩
theorem SlRep.set {i : Nat} {d : D} {v : V} (h : SlRep K μ H sd σ) (r : RepV K μ H d v) : SlRep K μ H (sd.set i (some d)) (σ.set i (some v)) where
  len := by simp [h.len]
  at_ := fun j e q => by
    by_cases hj : j = i
    · subst hj
      have hl : j < sd.length := by
        have := (List.getElem?_eq_some_iff.mp q).1
        simpa using this
      rw [List.getElem?_set_self hl] at q
      cases q
      exact ⟨v, List.getElem?_set_self (by rw [← h.len]; exact hl), r⟩
    · rw [List.getElem?_set_ne (Ne.symm hj)] at q ⊢
      exact h.at_ j e q
theorem SlRep.none {i : Nat} (h : SlRep K μ H sd σ) : SlRep K μ H (sd.set i none) (σ.set i none) where
  len := by simp [h.len]
  at_ := fun j e q => by
    by_cases hj : j = i
    · subst hj
      have hl : j < sd.length := by
        have := (List.getElem?_eq_some_iff.mp q).1
        simpa using this
      rw [List.getElem?_set_self hl] at q
      cases q
    · rw [List.getElem?_set_ne (Ne.symm hj)] at q ⊢
      exact h.at_ j e q
end
end Fx

namespace Fx
open PySem PySem.Spec PyProof.Rows L2

/-! ### readings of expressions, by functions over the data -/
abbrev ME := Sl → List Cell → Res D
abbrev MA := Sl → List Cell → Res (List D)
abbrev MT := Sl → List Cell → Res Bool

/-- how an exception lies in the heap -/
def ExRep (mg : Str → Option Value) (K : PySem.W.Frag) (μ : Mu) (H : Hp) (x : Ex) (cls : Value) (dx : Option Addr) : Prop :=
  ∃ C d fs, cls = .ref C ∧ dx = some d ∧ mg (Str.ofString x.cls) = some (.ref C) ∧ H d = some (.xd fs) ∧ fs.map (·.1) = x.fs.map (fun p => Str.ofString p.1) ∧ RepL K μ H (x.fs.map (·.2)) (fs.map (·.2))

section
variable (mg : Str → Option Value) (K : PySem.W.Frag)
/-- what is wanted behind a value, behind an exception -/
def FinA {α : Type} {β : Type} (Rep : Mu → Hp → α → β → Prop) (E : XK) (μ : Mu) (H : Hp) (r : Res α) (Q : β → Hp → Prop) : Prop :=
  match r with
  | .ok d S' => ∀ v H' μ', Up μ H μ' H' → StoRep mg K μ' S' H' → Rep μ' H' d v → Q v H'
  | .exc x S' => ∀ cls dx H' μ', Up μ H μ' H' → StoRep mg K μ' S' H' → ExRep mg K μ' H' x cls dx → E cls dx H'
  | .stk => False
/-- .. with the store and the map told to what follows -/
def FinK {α : Type} {β : Type} (Rep : Mu → Hp → α → β → Prop) (E : XK) (μ : Mu) (H : Hp) (r : Res α) (Q : α → List Cell → Mu → β → Hp → Prop) : Prop :=
  match r with
  | .ok d S' => ∀ v H' μ', Up μ H μ' H' → StoRep mg K μ' S' H' → Rep μ' H' d v → Q d S' μ' v H'
  | .exc x S' => ∀ cls dx H' μ', Up μ H μ' H' → StoRep mg K μ' S' H' → ExRep mg K μ' H' x cls dx → E cls dx H'
  | .stk => False
end
section
variable {mg : Str → Option Value} {K : PySem.W.Frag} {E : XK} {μ μ' : Mu} {H H' : Hp}
variable {α β γ δ : Type} {Rep : Mu → Hp → α → β → Prop} {Rep' : Mu → Hp → γ → δ → Prop}
theorem FinA.up {r : Res α} {Q : β → Hp → Prop} (u : Up μ H μ' H') (h : FinA mg K Rep E μ H r Q) : FinA mg K Rep E μ' H' r Q := by
  cases r with
  | ok d S => exact fun v H2 μ2 u2 => h v H2 μ2 (u.trans u2)
  | exc x S => exact fun c dx H2 μ2 u2 => h c dx H2 μ2 (u.trans u2)
  | stk => exact h
/-- one behind another -/
theorem FinA.bind {r : Res α} {f : α → List Cell → Res γ} {Q : δ → Hp → Prop} (h : FinA mg K Rep' E μ H (r.bind f) Q) :
    FinK mg K Rep E μ H r fun d S' μ' v H' => FinA mg K Rep' E μ' H' (f d S') Q := by
  cases r with
  | ok d S =>
    intro v H2 μ2 u2 s2 r2
    exact FinA.up u2 h
  | exc x S => exact h
  | stk => exact h
end

abbrev RepB (_ : Mu) (_ : Hp) (a b : Bool) : Prop := a = b
def tE (X : Cx) (W : WX) (m : ME) : TE := fun σ H Q => ∃ μ S sd, StoRep X.mg X.K μ S H ∧ SlRep X.K μ H sd σ ∧ FinA X.mg X.K (RepV X.K) (fun c d H' => W c d σ H') μ H (m sd S) Q
def tA (X : Cx) (W : WX) (m : MA) : TA := fun σ H Q => ∃ μ S sd, StoRep X.mg X.K μ S H ∧ SlRep X.K μ H sd σ ∧ FinA X.mg X.K (RepL X.K) (fun c d H' => W c d σ H') μ H (m sd S) Q
def tT (X : Cx) (W : WX) (m : MT) : TT := fun σ H Q => ∃ μ S sd, StoRep X.mg X.K μ S H ∧ SlRep X.K μ H sd σ ∧ FinA X.mg X.K RepB (fun c d H' => W c d σ H') μ H (m sd S) Q
abbrev SE (X : Cx) (W : WX) (e : Expr) (m : ME) : Prop := PE X e (tE X W m)
abbrev SA (X : Cx) (W : WX) (es : List Expr) (m : MA) : Prop := PA X es (tA X W m)
abbrev ST (X : Cx) (W : WX) (e : Expr) (m : MT) : Prop := PT X e (tT X W m)

theorem _root_.L2.PE.impF {X : Cx} {e : Expr} {t t' : TE} (h : PE X e t) (i : ∀ σ H Q, t' σ H Q → t σ H Q) : PE X e t' := ⟨fun pins s σ H Q I q => h.run pins s σ H Q I (i σ H Q q)⟩
theorem _root_.L2.PA.impF {X : Cx} {e : List Expr} {t t' : TA} (h : PA X e t) (i : ∀ σ H Q, t' σ H Q → t σ H Q) : PA X e t' := ⟨fun pos pins s σ H Q I q => h.run pos pins s σ H Q I (i σ H Q q)⟩
theorem _root_.L2.PT.impF {X : Cx} {e : Expr} {t t' : TT} (h : PT X e t) (i : ∀ σ H Q, t' σ H Q → t σ H Q) : PT X e t' := ⟨fun pins s σ H Q I q => h.run pins s σ H Q I (i σ H Q q)⟩
theorem _root_.L2.PS.impF {X : Cx} {e : Stmt} {t t' : TS} (h : PS X e t) (i : ∀ D σ H, t' D σ H → t D σ H) : PS X e t' := ⟨fun pins s σ H Q I q => h.run pins s σ H Q I (i Q σ H q)⟩
theorem _root_.L2.PSs.impF {X : Cx} {e : List Stmt} {t t' : TS} (h : PSs X e t) (i : ∀ D σ H, t' D σ H → t D σ H) : PSs X e t' := ⟨fun pins s σ H Q I q => h.run pins s σ H Q I (i Q σ H q)⟩

section
variable {X : Cx} {W : WX}
/-- a part, then what follows it: the way through tE -/
theorem tE_bind {α δ : Type} {Rep' : Mu → Hp → α → δ → Prop} {m : ME} {f : D → List Cell → Res α} {σ : St} {H : Hp} {μ : Mu} {S : List Cell} {sd : Sl} {Q : δ → Hp → Prop} {Q' : VK} (hs : StoRep X.mg X.K μ S H) (hl : SlRep X.K μ H sd σ)
    (h : FinA X.mg X.K Rep' (fun c d H' => W c d σ H') μ H ((m sd S).bind f) Q)
    (k : ∀ d S' μ' v H', StoRep X.mg X.K μ' S' H' → SlRep X.K μ' H' sd σ → Up μ H μ' H' → RepV X.K μ' H' d v → FinA X.mg X.K Rep' (fun c d H' => W c d σ H') μ' H' (f d S') Q → Q' v H') : tE X W m σ H Q' := by
  refine ⟨μ, S, sd, hs, hl, ?_⟩
  have h' := FinA.bind (Rep := RepV X.K) h
  generalize hr : m sd S = r at h h'
  cases r with
  | ok d S' => exact fun v H' μ' u s r => k d S' μ' v H' s (hl.up u) u r (h' v H' μ' u s r)
  | exc x S' => exact h'
  | stk => exact h'
theorem tA_bind {α δ : Type} {Rep' : Mu → Hp → α → δ → Prop} {m : MA} {f : List D → List Cell → Res α} {σ : St} {H : Hp} {μ : Mu} {S : List Cell} {sd : Sl} {Q : δ → Hp → Prop} {Q' : List V → Hp → Prop} (hs : StoRep X.mg X.K μ S H) (hl : SlRep X.K μ H sd σ)
    (h : FinA X.mg X.K Rep' (fun c d H' => W c d σ H') μ H ((m sd S).bind f) Q)
    (k : ∀ d S' μ' v H', StoRep X.mg X.K μ' S' H' → SlRep X.K μ' H' sd σ → Up μ H μ' H' → RepL X.K μ' H' d v → FinA X.mg X.K Rep' (fun c d H' => W c d σ H') μ' H' (f d S') Q → Q' v H') : tA X W m σ H Q' := by
  refine ⟨μ, S, sd, hs, hl, ?_⟩
  have h' := FinA.bind (Rep := RepL X.K) h
  generalize hr : m sd S = r at h h'
  cases r with
  | ok d S' => exact fun v H' μ' u s r => k d S' μ' v H' s (hl.up u) u r (h' v H' μ' u s r)
  | exc x S' => exact h'
  | stk => exact h'
theorem tT_bind {α δ : Type} {Rep' : Mu → Hp → α → δ → Prop} {m : MT} {f : Bool → List Cell → Res α} {σ : St} {H : Hp} {μ : Mu} {S : List Cell} {sd : Sl} {Q : δ → Hp → Prop} {Q' : Bool → Hp → Prop} (hs : StoRep X.mg X.K μ S H) (hl : SlRep X.K μ H sd σ)
    (h : FinA X.mg X.K Rep' (fun c d H' => W c d σ H') μ H ((m sd S).bind f) Q)
    (k : ∀ d S' μ' H', StoRep X.mg X.K μ' S' H' → SlRep X.K μ' H' sd σ → Up μ H μ' H' → FinA X.mg X.K Rep' (fun c d H' => W c d σ H') μ' H' (f d S') Q → Q' d H') : tT X W m σ H Q' := by
  refine ⟨μ, S, sd, hs, hl, ?_⟩
  have h' := FinA.bind (Rep := RepB) h
  generalize hr : m sd S = r at h h'
  cases r with
  | ok d S' => exact fun v H' μ' u s r => (show d = v from r) ▸ k d S' μ' H' s (hl.up u) u (h' v H' μ' u s r)
  | exc x S' => exact h'
  | stk => exact h'

/-! ### constants, names -/
def mC (d : D) : ME := fun _ S => .ok d S
def mVar (i : Nat) : ME := fun sd S => match sd[i]? with | some (some d) => .ok d S | _ => .stk
theorem se_var (i : Nat) {x : Str} {pos : Pos} (hN : X.N[i]? = some x := by rfl) (hv : Vis X.env.scope x := by first | exact Or.inl rfl | exact Or.inr (Or.inl rfl) | exact Or.inr (Or.inr rfl)) (hd : (x == ("__debug__" : Str)) = false := by decide)
    (hcd : (x == ("__classdict__" : Str)) = false := by decide) : SE X W (.Name x pos) (mVar i) := by
  refine (pe_var hN hv hd hcd).impF fun σ H Q ⟨μ, S, sd, hs, hl, h⟩ => ?_
  unfold mVar at h
  split at h
  · rename_i d e
    obtain ⟨v, e1, r⟩ := hl.at_ i d e
    exact ⟨v, e1, h v H μ .refl hs r⟩
  · exact h.elim
theorem se_const {e : Expr} {v : V} {d : D} (h : PE X e (tC v)) (r : ∀ μ H, RepV X.K μ H d v) : SE X W e (mC d) := h.impF fun σ H Q ⟨μ, S, sd, hs, hl, h⟩ => h v H μ .refl hs (r μ H)
theorem se_int {i j pos} : SE X W (.Constant (.int i) j pos) (mC (.int i)) := se_const pe_int fun _ _ => .int i
theorem se_bl {b j pos} : SE X W (.Constant (.bool b) j pos) (mC (.bl b)) := se_const pe_bl fun _ _ => .bl b
theorem se_non {j pos} : SE X W (.Constant .none j pos) (mC .non) := se_const pe_non fun _ _ => .non
theorem se_str {x j pos} : SE X W (.Constant (.str x) j pos) (mC (.str x.cps.toList)) := se_const pe_str fun μ H => by
  have e : x = ⟨x.cps.toList.toArray⟩ := by cases x; simp
  have := RepV.str (K := X.K) (μ := μ) (H := H) x.cps.toList
  rwa [← e] at this
/-- a global constant of the module -/
theorem se_glob {x : Str} {v : V} {d : D} {u : Value} {pos : Pos} (hg : Gl X x) (hm : X.mg x = some u) (r : RelV v u) (rd : ∀ μ H, RepV X.K μ H d v) (hd : (x == ("__debug__" : Str)) = false := by decide) : SE X W (.Name x pos) (mC d) := se_const (pe_glob hg hm r hd) rd

/-! ### argument lists, displays -/
def mNil : MA := fun _ S => .ok [] S
def mCons (m : ME) (r : MA) : MA := fun sd S => (m sd S).bind fun d S1 => (r sd S1).bind fun ds S2 => .ok (d :: ds) S2
theorem sa_nil : SA X W [] mNil := pa_nil.impF fun σ H Q ⟨μ, S, sd, hs, hl, h⟩ => h [] H μ .refl hs .nil
theorem sa_cons {e : Expr} {es : List Expr} {m : ME} {r : MA} (he : SE X W e m) (hr : SA X W es r) (hst : starEach (e :: es) X.env = (false, eval e X.env) :: starEach es X.env := by rfl) : SA X W (e :: es) (mCons m r) :=
  (pa_cons he hr hst).impF fun σ H Q ⟨μ, S, sd, hs, hl, h⟩ => tE_bind hs hl h fun d S1 μ1 v H1 hs1 hl1 u1 r1 h1 => tA_bind hs1 hl1 h1 fun ds S2 μ2 vs H2 hs2 hl2 u2 r2 h2 => h2 (v :: vs) H2 μ2 .refl hs2 (.cons (r1.up u2) r2)
def mTup (m : MA) : ME := fun sd S => (m sd S).bind fun ds S1 => if ds.length ≤ sizeLine then .ok (.tup ds) S1 else .stk
def mLst (m : MA) : ME := fun sd S => (m sd S).bind fun ds S1 => if ds.length ≤ sizeLine then .ok (.loc S1.length) (S1 ++ [.lst ds]) else .stk
theorem se_tup {es : List Expr} {m : MA} {x1 pos} (h : SA X W es m) : SE X W (.Tuple es x1 pos) (mTup m) :=
  (pe_tup h).impF fun σ H Q ⟨μ, S, sd, hs, hl, h⟩ => tA_bind hs hl h fun ds S1 μ1 vs H1 hs1 hl1 u1 r1 h1 => by
    split at h1
    · rename_i hz
      refine ⟨by rw [← r1.length]; exact hz, fun p hp => ?_⟩
      exact h1 (.ref p) _ μ1 (up_tmp hp) (hs1.tmp hp) (.tup (SqT.of upd_same) (r1.up (up_tmp hp)))
    · exact h1.elim
theorem se_lst {es : List Expr} {m : MA} {pos} (h : SA X W es m) : SE X W (.List es pos) (mLst m) :=
  (pe_lst h).impF fun σ H Q ⟨μ, S, sd, hs, hl, h⟩ => tA_bind hs hl h fun ds S1 μ1 vs H1 hs1 hl1 u1 r1 h1 => by
    split at h1
    · rename_i hz
      refine ⟨by rw [← r1.length]; exact hz, fun p hp => ?_⟩
      exact h1 (.ref p) _ (μ1 ++ [p]) (up_new hp) (hs1.alloc hp ⟨vs, upd_same, r1.up (up_new hp)⟩) (.loc (by rw [← hs1.len]; simp))
    · exact h1.elim

/-! ### operators -/
abbrev O2 := D → D → List Cell → Res D
/-- an operation on two values, by a function over the data (it raises nothing of its own) -/
def OpD (X : Cx) (W : WX) (f : Value → Value → Sem Value) (o : O2) : Prop :=
  ∃ r : R2, OpR X f r ∧ ∀ σ H μ S d e x y Q, StoRep X.mg X.K μ S H → RepV X.K μ H d x → RepV X.K μ H e y → FinA X.mg X.K (RepV X.K) (fun c d H' => W c d σ H') μ H (o d e S) Q → r x y H Q
def mBin (o : O2) (a b : ME) : ME := fun sd S => (a sd S).bind fun d S1 => (b sd S1).bind fun e S2 => o d e S2
theorem bin_of {a b : Expr} {ma mb : ME} {o : O2} {r : R2} (ha : SE X W a ma) (hb : SE X W b mb)
    (ho : ∀ σ H μ S d e x y Q, StoRep X.mg X.K μ S H → RepV X.K μ H d x → RepV X.K μ H e y → FinA X.mg X.K (RepV X.K) (fun c d H' => W c d σ H') μ H (o d e S) Q → r x y H Q) (σ : St) (H : Hp) (Q : VK) (h : tE X W (mBin o ma mb) σ H Q) :
    tOp r (tE X W ma) (tE X W mb) σ H Q := by
  obtain ⟨μ, S, sd, hs, hl, h⟩ := h
  exact tE_bind hs hl h fun d S1 μ1 v H1 hs1 hl1 u1 r1 h1 => tE_bind hs1 hl1 h1 fun e S2 μ2 w H2 hs2 hl2 u2 r2 h2 => ho σ H2 μ2 S2 d e v w Q hs2 (r1.up u2) r2 h2
theorem se_bin {op : Operator} {o : O2} {a b : Expr} {ma mb : ME} {pos : Pos} (ho : OpD X W (binaryOp op) o) (ha : SE X W a ma) (hb : SE X W b mb) : SE X W (.BinOp a op b pos) (mBin o ma mb) := by
  obtain ⟨r, h1, h2⟩ := ho
  exact (pe_op h1 ha hb).impF (bin_of ha hb h2)
theorem se_cmp {op : CmpOp} {o : O2} {a b : Expr} {ma mb : ME} {pos : Pos} (ho : OpD X W (compareOp op) o) (ha : SE X W a ma) (hb : SE X W b mb) (hm : behindInMarks op b = false := by first | exact nomark _ | rfl) : SE X W (.Compare a [op] [b] pos) (mBin o ma mb) := by
  obtain ⟨r, h1, h2⟩ := ho
  exact (pe_cmpR h1 ha hb hm).impF (bin_of ha hb h2)
/-- ints in, a value out, under a condition -/
def oInt (c : Int → Int → Bool) (g : Int → Int → D) : O2 := fun d e S => match d, e with
  | .int i, .int j => if c i j then .ok (g i j) S else .stk
  | _, _ => .stk
theorem RepV.inv_int {K : PySem.W.Frag} {μ : Mu} {H : Hp} {i : Int} {x : V} (h : RepV K μ H (.int i) x) : x = .int i := by cases h; rfl
theorem RepV.inv_bl {K : PySem.W.Frag} {μ : Mu} {H : Hp} {i : Bool} {x : V} (h : RepV K μ H (.bl i) x) : x = .bl i := by cases h; rfl
theorem RepV.inv_non {K : PySem.W.Frag} {μ : Mu} {H : Hp} {x : V} (h : RepV K μ H .non x) : x = .non := by cases h; rfl
theorem RepV.inv_str {K : PySem.W.Frag} {μ : Mu} {H : Hp} {i : List Nat} {x : V} (h : RepV K μ H (.str i) x) : x = .str ⟨i.toArray⟩ := by cases h; rfl
theorem od_int {f : Value → Value → Sem Value} {C : Int → Int → Prop} {c : Int → Int → Bool} {g : Int → Int → V} {gd : Int → Int → D} (h : OpR X f (rI C g)) (hc : ∀ i j, c i j = true → C i j) (hg : ∀ i j μ H, RepV X.K μ H (gd i j) (g i j)) : OpD X W f (oInt c gd) := by
  refine ⟨_, h, fun σ H μ S d e x y Q hs rx ry h => ?_⟩
  unfold oInt at h
  split at h
  · split at h
    · rename_i i j hcc
      exact ⟨i, j, rx.inv_int, ry.inv_int, hc i j hcc, h _ H μ .refl hs (hg i j μ H)⟩
    · exact h.elim
  · exact h.elim
theorem od_int0 {f : Value → Value → Sem Value} {g : Int → Int → V} {gd : Int → Int → D} (h : OpR X f (rI0 g)) (hg : ∀ i j μ H, RepV X.K μ H (gd i j) (g i j)) : OpD X W f (oInt (fun _ _ => true) gd) := by
  refine ⟨_, h, fun σ H μ S d e x y Q hs rx ry h => ?_⟩
  unfold oInt at h
  split at h
  · rename_i i j
    rw [if_pos rfl] at h
    exact ⟨i, j, rx.inv_int, ry.inv_int, h _ H μ .refl hs (hg i j μ H)⟩
  · exact h.elim
end
end Fx

namespace Fx
open PySem PySem.Spec PyProof.Rows L2

/-! ### statements -/
inductive ResS where
  | nx (sd : Sl) (S : List Cell) | rt (d : D) (S : List Cell) | bk (sd : Sl) (S : List Cell) | ct (sd : Sl) (S : List Cell) | exc (x : Ex) (sd : Sl) (S : List Cell) | stk
abbrev MS := Sl → List Cell → ResS
def FinS (mg : Str → Option Value) (K : PySem.W.Frag) (W : WX) (μ : Mu) (H : Hp) (r : ResS) (Q : Ends) : Prop :=
  match r with
  | .nx sd S' => ∀ σ' H' μ', Up μ H μ' H' → StoRep mg K μ' S' H' → SlRep K μ' H' sd σ' → Q.nx σ' H'
  | .bk sd S' => ∀ σ' H' μ', Up μ H μ' H' → StoRep mg K μ' S' H' → SlRep K μ' H' sd σ' → Q.bk σ' H'
  | .ct sd S' => ∀ σ' H' μ', Up μ H μ' H' → StoRep mg K μ' S' H' → SlRep K μ' H' sd σ' → Q.ct σ' H'
  | .rt d S' => ∀ v H' μ', Up μ H μ' H' → StoRep mg K μ' S' H' → RepV K μ' H' d v → Q.rt v H'
  | .exc x sd S' => ∀ cls dx σ' H' μ', Up μ H μ' H' → StoRep mg K μ' S' H' → SlRep K μ' H' sd σ' → ExRep mg K μ' H' x cls dx → W cls dx σ' H'
  | .stk => False
theorem FinS.up {mg : Str → Option Value} {K : PySem.W.Frag} {W : WX} {μ μ' : Mu} {H H' : Hp} {r : ResS} {Q : Ends} (u : Up μ H μ' H') (h : FinS mg K W μ H r Q) : FinS mg K W μ' H' r Q := by
  cases r with
  | nx d S => exact fun v H2 μ2 u2 => h v H2 μ2 (u.trans u2)
  | bk d S => exact fun v H2 μ2 u2 => h v H2 μ2 (u.trans u2)
  | ct d S => exact fun v H2 μ2 u2 => h v H2 μ2 (u.trans u2)
  | rt d S => exact fun v H2 μ2 u2 => h v H2 μ2 (u.trans u2)
  | exc x d S => exact fun a b v H2 μ2 u2 => h a b v H2 μ2 (u.trans u2)
  | stk => exact h
def tS (X : Cx) (W : WX) (m : MS) : TS := fun D σ H => ∃ μ S sd, StoRep X.mg X.K μ S H ∧ SlRep X.K μ H sd σ ∧ FinS X.mg X.K W μ H (m sd S) D
abbrev SS (X : Cx) (W : WX) (st : Stmt) (m : MS) : Prop := PS X st (tS X W m)
abbrev SB (X : Cx) (W : WX) (sts : List Stmt) (m : MS) : Prop := PSs X sts (tS X W m)
/-- an expression's end carried into a statement -/
def Res.thenS {α : Type} (r : Res α) (sd : Sl) (f : α → List Cell → ResS) : ResS := match r with
  | .ok a S => f a S
  | .exc x S => .exc x sd S
  | .stk => .stk
section
variable {X : Cx} {W : WX}
theorem tE_then {m : ME} {f : D → List Cell → ResS} {σ : St} {H : Hp} {μ : Mu} {S : List Cell} {sd : Sl} {Q : Ends} {Q' : VK} (hs : StoRep X.mg X.K μ S H) (hl : SlRep X.K μ H sd σ)
    (h : FinS X.mg X.K W μ H ((m sd S).thenS sd f) Q)
    (k : ∀ d S' μ' v H', StoRep X.mg X.K μ' S' H' → SlRep X.K μ' H' sd σ → Up μ H μ' H' → RepV X.K μ' H' d v → FinS X.mg X.K W μ' H' (f d S') Q → Q' v H') : tE X W m σ H Q' := by
  refine ⟨μ, S, sd, hs, hl, ?_⟩
  generalize hr : m sd S = r at h
  cases r with
  | ok d S' => exact fun v H' μ' u s r => k d S' μ' v H' s (hl.up u) u r (FinS.up u h)
  | exc x S' => exact fun c dx H' μ' u s e => h c dx σ H' μ' u s (hl.up u) e
  | stk => exact h
theorem tT_then {m : MT} {f : Bool → List Cell → ResS} {σ : St} {H : Hp} {μ : Mu} {S : List Cell} {sd : Sl} {Q : Ends} {Q' : Bool → Hp → Prop} (hs : StoRep X.mg X.K μ S H) (hl : SlRep X.K μ H sd σ)
    (h : FinS X.mg X.K W μ H ((m sd S).thenS sd f) Q)
    (k : ∀ d S' μ' H', StoRep X.mg X.K μ' S' H' → SlRep X.K μ' H' sd σ → Up μ H μ' H' → FinS X.mg X.K W μ' H' (f d S') Q → Q' d H') : tT X W m σ H Q' := by
  refine ⟨μ, S, sd, hs, hl, ?_⟩
  generalize hr : m sd S = r at h
  cases r with
  | ok d S' => exact fun v H' μ' u s r => (show d = v from r) ▸ k d S' μ' H' s (hl.up u) u (FinS.up u h)
  | exc x S' => exact fun c dx H' μ' u s e => h c dx σ H' μ' u s (hl.up u) e
  | stk => exact h

def mNext : MS := fun sd S => .nx sd S
def mSeq (a b : MS) : MS := fun sd S => match a sd S with
  | .nx sd1 S1 => b sd1 S1
  | .rt d S1 => .rt d S1
  | .bk sd1 S1 => .bk sd1 S1
  | .ct sd1 S1 => .ct sd1 S1
  | .exc x sd1 S1 => .exc x sd1 S1
  | .stk => .stk
theorem sb_nil : SB X W [] mNext := pss_nil.impF fun D σ H ⟨μ, S, sd, hs, hl, h⟩ => h σ H μ .refl hs hl
theorem sb_one {st : Stmt} {m : MS} (h : SS X W st m) : SB X W [st] m := pss_one h
theorem sb_cons {st : Stmt} {rest : List Stmt} {a b : MS} (h1 : SS X W st a) (h2 : SB X W rest b) : SB X W (st :: rest) (mSeq a b) := by
  refine (pss_cons h1 h2).impF fun D σ H ⟨μ, S, sd, hs, hl, h⟩ => ?_
  refine ⟨μ, S, sd, hs, hl, ?_⟩
  unfold mSeq at h
  generalize hr : a sd S = r at h
  cases r with
  | nx sd1 S1 => exact fun σ' H' μ' u s l => ⟨μ', S1, sd1, s, l, FinS.up u h⟩
  | rt d S1 => exact h
  | bk sd1 S1 => exact h
  | ct sd1 S1 => exact h
  | exc x sd1 S1 => exact h
  | stk => exact h
def mRet (m : ME) : MS := fun sd S => (m sd S).thenS sd fun d S1 => .rt d S1
theorem ss_ret {e : Expr} {m : ME} {pos : Pos} (h : SE X W e m) : SS X W (.Return (some e) pos) (mRet m) :=
  (ps_ret h).impF fun D σ H ⟨μ, S, sd, hs, hl, h⟩ => tE_then hs hl h fun d S1 μ1 v H1 hs1 hl1 u1 r1 h1 => h1 v H1 μ1 .refl hs1 r1
def mRetN : MS := fun sd S => .rt .non S
theorem ss_retN {pos : Pos} : SS X W (.Return none pos) mRetN := ps_retN.impF fun D σ H ⟨μ, S, sd, hs, hl, h⟩ => h .non H μ .refl hs .non
def mExpr (m : ME) : MS := fun sd S => (m sd S).thenS sd fun _ S1 => .nx sd S1
theorem ss_expr {e : Expr} {m : ME} {pos : Pos} (h : SE X W e m) (hs : swapsWith e none pos.line X.env = pure false := by rfl) : SS X W (.Expr e pos) (mExpr m) :=
  (ps_expr h hs).impF fun D σ H ⟨μ, S, sd, hs, hl, h⟩ => tE_then hs hl h fun d S1 μ1 v H1 hs1 hl1 u1 r1 h1 => h1 σ H1 μ1 .refl hs1 hl1
theorem ss_pass {pos : Pos} : SS X W (.Pass pos) mNext := ps_pass.impF fun D σ H ⟨μ, S, sd, hs, hl, h⟩ => h σ H μ .refl hs hl
def mBreak : MS := fun sd S => .bk sd S
def mCont : MS := fun sd S => .ct sd S
theorem ss_break {pos : Pos} : SS X W (.Break pos) mBreak := ps_break.impF fun D σ H ⟨μ, S, sd, hs, hl, h⟩ => h σ H μ .refl hs hl
theorem ss_continue {pos : Pos} : SS X W (.Continue pos) mCont := ps_continue.impF fun D σ H ⟨μ, S, sd, hs, hl, h⟩ => h σ H μ .refl hs hl
def mIf (t : MT) (a b : MS) : MS := fun sd S => (t sd S).thenS sd fun c S1 => if c = true then a sd S1 else b sd S1
theorem ss_if {c : Expr} {a b : List Stmt} {t : MT} {ma mb : MS} {pos : Pos} (hc : ST X W c t) (ha : SB X W a ma) (hb : SB X W b mb) : SS X W (.If c a b pos) (mIf t ma mb) :=
  (ps_if hc ha hb).impF fun D σ H ⟨μ, S, sd, hs, hl, h⟩ => tT_then hs hl h fun d S1 μ1 H1 hs1 hl1 u1 h1 => by
    cases d with
    | true => exact ⟨μ1, S1, sd, hs1, hl1, h1⟩
    | false => exact ⟨μ1, S1, sd, hs1, hl1, h1⟩

/-! ### targets -/
abbrev MG := D → Sl → List Cell → Res Sl
abbrev MGs := List D → Sl → List Cell → Res Sl
def tG (X : Cx) (W : WX) (g : MG) : TG := fun v σ H Q => ∃ μ S sd d, StoRep X.mg X.K μ S H ∧ SlRep X.K μ H sd σ ∧ RepV X.K μ H d v ∧ FinA X.mg X.K (fun μ H => SlRep X.K μ H) (fun c d H' => W c d σ H') μ H (g d sd S) Q
def tGs (X : Cx) (W : WX) (g : MGs) : TGs := fun vs σ H Q => ∃ μ S sd ds, StoRep X.mg X.K μ S H ∧ SlRep X.K μ H sd σ ∧ RepL X.K μ H ds vs ∧ FinA X.mg X.K (fun μ H => SlRep X.K μ H) (fun c d H' => W c d σ H') μ H (g ds sd S) Q
abbrev SG (X : Cx) (W : WX) (tg : Expr) (g : MG) : Prop := PG X tg (tG X W g)
theorem _root_.L2.PG.impF {X : Cx} {e : Expr} {t t' : TG} (h : PG X e t) (i : ∀ v σ H Q, t' v σ H Q → t v σ H Q) : PG X e t' := ⟨fun pins s σ H v u Q I r q => h.run pins s σ H v u Q I r (i v σ H Q q)⟩
def gN (i : Nat) : MG := fun d sd S => .ok (sd.set i (some d)) S
theorem sg_name (i : Nat) {x : Str} {pos : Pos} (hN : X.N.Nodup) (hi : X.N[i]? = some x := by rfl) (hx : Loc X.env.scope x := by first | exact Or.inl rfl | exact Or.inr rfl) (hf : X.fn x = true ∨ X.env.scope.names.lookup x = some .local := by first | exact .inl rfl | exact .inr rfl) : SG X W (.Name x pos) (gN i) :=
  (pg_name hN hi hx hf).impF fun v σ H Q ⟨μ, S, sd, d, hs, hl, r, h⟩ => h _ H μ .refl hs (hl.set r)
def mSet (i : Nat) (m : ME) : MS := fun sd S => (m sd S).thenS sd fun d S1 => .nx (sd.set i (some d)) S1
theorem ss_set (i : Nat) {x : Str} {e : Expr} {m : ME} {pos pos' : Pos} (hN : X.N.Nodup) (he : SE X W e m) (hi : X.N[i]? = some x := by rfl) (hx : Loc X.env.scope x := by first | exact Or.inl rfl | exact Or.inr rfl) (hs : swapsWith e (some (.Name x pos')) pos.line X.env = pure false := by rfl)
    (hf : X.fn x = true ∨ X.env.scope.names.lookup x = some .local := by first | exact .inl rfl | exact .inr rfl) : SS X W (.Assign [.Name x pos'] e pos) (mSet i m) :=
  (ps_set hN hi hx he hs hf).impF fun D σ H ⟨μ, S, sd, hs, hl, h⟩ => tE_then hs hl h fun d S1 μ1 v H1 hs1 hl1 u1 r1 h1 => h1 _ H1 μ1 .refl hs1 (hl1.set r1)
def mAsg (g : MG) (m : ME) : MS := fun sd S => (m sd S).thenS sd fun d S1 => (g d sd S1).thenS sd fun sd2 S2 => .nx sd2 S2
theorem ss_asg {tg e : Expr} {g : MG} {m : ME} {pos : Pos} (he : SE X W e m) (hg : SG X W tg g) (hs : swapsWithSole [tg] e pos.line X.env = pure false := by rfl) (hw : swappedStores [tg] e X.env = pure none := by rfl)
    (h1 : (assignEach [tg] X.env).map (·.2) = [assign tg X.env] := by rfl) : SS X W (.Assign [tg] e pos) (mAsg g m) :=
  (ps_asg he hg hs hw h1).impF fun D σ H ⟨μ, S, sd, hs, hl, h⟩ => tE_then hs hl h fun d S1 μ1 v H1 hs1 hl1 u1 r1 h1 => by
    refine ⟨μ1, S1, sd, d, hs1, hl1, r1, ?_⟩
    generalize hr : g d sd S1 = r at h1
    cases r with
    | ok sd2 S2 => exact fun σ' H' μ' u s l => h1 σ' H' μ' u s l
    | exc x S2 => exact fun c dx H' μ' u s e => h1 c dx σ H' μ' u s (hl1.up u) e
    | stk => exact h1
/-- name op= e -/
def mAug (i : Nat) (o : O2) (m : ME) : MS := fun sd S => (mVar i sd S).thenS sd fun d S1 => (m sd S1).thenS sd fun e S2 => (o d e S2).thenS sd fun f S3 => .nx (sd.set i (some f)) S3
theorem ss_aug (i : Nat) {x : Str} {e : Expr} {op : Operator} {o : O2} {m : ME} {pos pos' : Pos} (ho : OpD X W (inplaceOp op) o) (hN : X.N.Nodup) (he : SE X W e m) (hi : X.N[i]? = some x := by rfl) (hx : Loc X.env.scope x := by first | exact Or.inl rfl | exact Or.inr rfl)
    (hf : X.fn x = true ∨ X.env.scope.names.lookup x = some .local := by first | exact .inl rfl | exact .inr rfl) : SS X W (.AugAssign (.Name x pos') op e pos) (mAug i o m) := by
  obtain ⟨r, ho1, ho2⟩ := ho
  refine (ps_aug hN hi hx he (ti := r) (fun pins s σ H x y v u Q I r1 r2 h => ho1 pins s σ H x y v u Q I r1 r2 h) hf).impF fun D σ H ⟨μ, S, sd, hs, hl, h⟩ => ?_
  unfold mAug at h
  unfold mVar at h
  split at h
  · rename_i d e0
    obtain ⟨v, e1, rv⟩ := hl.at_ i d e0
    refine ⟨v, e1, ?_⟩
    refine tE_then hs hl h fun d2 S1 μ1 v2 H1 hs1 hl1 u1 r1 h1 => ho2 σ H1 μ1 S1 d d2 v v2 _ hs1 (rv.up u1) r1 ?_
    generalize hr : o d d2 S1 = r at h1
    cases r with
    | ok f S2 => exact fun w H' μ' u s r => h1 _ H' μ' u s ((hl1.up u).set r)
    | exc x S2 => exact fun c dx H' μ' u s e => h1 c dx σ H' μ' u s (hl1.up u) e
    | stk => exact h1
  · exact h.elim
end

/-! ### defs -/
def spM (mg : Str → Option Value) (K : PySem.W.Frag) (n : Nat) (m : List D → List Cell → Res D) : Sp := fun vs H Q E => vs.length = n ∧ ∃ μ S ds, StoRep mg K μ S H ∧ RepL K μ H ds vs ∧ FinA mg K (RepV K) E μ H (m ds S) Q
/-- a global def of the module: what it computes, at a level -/
def FnM (P : Program) (w : World) (K : PySem.W.Frag) (mg : Str → Option Value) (base : Heap) (k : Nat) (x : Str) (n : Nat) (m : List D → List Cell → Res D) : Prop :=
  ∃ f fd ps, mg x = some (.ref f) ∧ PySem.W.keepIn K (.ref f) = true ∧ Binds K fd ps [] ∧ FnOk P w K mg base (L2.CX P w) k f fd ps (spM mg K n m)
section
variable {P : Program} {w : World} {K : PySem.W.Frag} {mg : Str → Option Value} {base : Heap}
theorem FnM.mono {j k : Nat} {x : Str} {n : Nat} {m : List D → List Cell → Res D} (F : FnM P w K mg base j x n m) (h : j ≤ k) : FnM P w K mg base k x n m := by
  obtain ⟨f, fd, ps, h1, h2, h3, h4⟩ := F
  exact ⟨f, fd, ps, h1, h2, h3, h4.mono h⟩
def mCall (m : List D → List Cell → Res D) (a : MA) : ME := fun sd S => (a sd S).bind fun ds S1 => m ds S1
theorem se_fn {X : Cx} {W : WX} {k n : Nat} {x : Str} {m : List D → List Cell → Res D} {e : Expr} {es : List Expr} {ma : MA} {p pos : Pos} (F : FnM X.prog X.w X.K X.mg X.base k x n m) (hr : Room k X.A) (tk : Takes X W) (ha : SA X W (e :: es) ma) (hn : ∀ sd S ds S', ma sd S = .ok ds S' → ds.length = n)
    (hg : Gl X x := by rfl) (hdb : (x == ("__debug__" : Str)) = false := by decide) (he : starEach (e :: es) X.env = (false, eval e X.env) :: starEach es X.env := by rfl) (hpl : (backTo pos (starEach es X.env)).any (·.1) = false := by rfl) :
    SE X W (.Call (.Name x p) (e :: es) [] pos) (mCall m ma) := by
  obtain ⟨f, fd, ps, h1, h2, h3, h4⟩ := F
  refine (pe_callS h4 hr hg h1 h2 h3 (fun σ => passAt tk σ) ha hdb he hpl).impF fun σ H Q ⟨μ, S, sd, hs, hl, h⟩ => ?_
  refine ⟨μ, S, sd, hs, hl, ?_⟩
  have h' := FinA.bind (Rep := RepL X.K) h
  generalize hr : ma sd S = r at h h'
  cases r with
  | ok d S' => exact fun v H' μ' u s r => ⟨by rw [← r.length]; exact hn _ _ _ _ hr, μ', S', d, s, r, h' v H' μ' u s r⟩
  | exc x S' => exact h'
  | stk => exact h'
end
end Fx

namespace Fx
open PySem PySem.Spec PyProof.Rows L2

/-! ### ints -/
section
variable {X : Cx} {W : WX}
abbrev oAddI : O2 := oInt (fun _ _ => true) fun i j => .int (i + j)
abbrev oSub : O2 := oInt (fun _ _ => true) fun i j => .int (i - j)
theorem od_addI : OpD X W (binaryOp .Add) oAddI := od_int0 op_add fun _ _ _ _ => .int _
theorem od_iaddI : OpD X W (inplaceOp .Add) oAddI := od_int0 iop_add fun _ _ _ _ => .int _
theorem od_sub : OpD X W (binaryOp .Sub) oSub := od_int0 op_sub fun _ _ _ _ => .int _
theorem od_isub : OpD X W (inplaceOp .Sub) oSub := od_int0 iop_sub fun _ _ _ _ => .int _
def c64 (i : Int) : Bool := decide (-(2 ^ 64) < i) && decide (i < 2 ^ 64)
def cMul (i j : Int) : Bool := c64 i || c64 j
theorem c64_ok {i : Int} (h : c64 i = true) : -(2 ^ 64) < i ∧ i < 2 ^ 64 := by
  unfold c64 at h
  simpa using h
theorem cMul_ok {i j : Int} (h : cMul i j = true) : CMul i j := by
  unfold cMul at h
  rcases Bool.or_eq_true_iff.mp h with h | h
  · exact .inl (c64_ok h)
  · exact .inr (c64_ok h)
def oMul : O2 := oInt cMul fun i j => .int (i * j)
theorem od_mul : OpD X W (binaryOp .Mult) oMul := od_int op_mul (fun _ _ => cMul_ok) fun _ _ _ _ => .int _
theorem od_imul : OpD X W (inplaceOp .Mult) oMul := od_int iop_mul (fun _ _ => cMul_ok) fun _ _ _ _ => .int _
def cDiv (_ j : Int) : Bool := decide (0 < j) && decide (j < 1073741824)
theorem cDiv_ok {i j : Int} (h : cDiv i j = true) : CDiv i j := by
  unfold cDiv at h
  simp only [Bool.and_eq_true, decide_eq_true_eq] at h
  exact h
def oDiv : O2 := oInt cDiv fun i j => .int (i / j)
theorem od_div : OpD X W (binaryOp .FloorDiv) oDiv := od_int op_fdiv (fun _ _ => cDiv_ok) fun _ _ _ _ => .int _
theorem od_idiv : OpD X W (inplaceOp .FloorDiv) oDiv := od_int iop_fdiv (fun _ _ => cDiv_ok) fun _ _ _ _ => .int _
def oMod : O2 := oInt (fun _ j => decide (0 < j)) fun i j => .int (i % j)
theorem od_mod : OpD X W (binaryOp .Mod) oMod := od_int op_mod (fun _ _ h => of_decide_eq_true h) fun _ _ _ _ => .int _
theorem od_imod : OpD X W (inplaceOp .Mod) oMod := od_int iop_mod (fun _ _ h => of_decide_eq_true h) fun _ _ _ _ => .int _
def cPow (i j : Int) : Bool := decide (0 ≤ j) && decide (j ≤ 1000000) && decide (i.natAbs < 2 ^ 64)
theorem cPow_ok {i j : Int} (h : cPow i j = true) : CPow i j := by
  unfold cPow at h
  simp only [Bool.and_eq_true, decide_eq_true_eq] at h
  exact ⟨h.1.1, h.1.2, h.2⟩
def oPow : O2 := oInt cPow fun i j => .int (i ^ j.toNat)
theorem od_pow : OpD X W (binaryOp .Pow) oPow := od_int op_pow (fun _ _ => cPow_ok) fun _ _ _ _ => .int _
def oShl : O2 := oInt cPow fun i j => .int (i * 2 ^ j.toNat)
theorem od_shl : OpD X W (binaryOp .LShift) oShl := od_int op_shl (fun _ _ => cPow_ok) fun _ _ _ _ => .int _
theorem od_ishl : OpD X W (inplaceOp .LShift) oShl := od_int iop_shl (fun _ _ => cPow_ok) fun _ _ _ _ => .int _
def oShr : O2 := oInt (fun _ j => decide (0 ≤ j)) fun i j => .int (i / 2 ^ j.toNat)
theorem od_shr : OpD X W (binaryOp .RShift) oShr := od_int op_shr (fun _ _ h => of_decide_eq_true h) fun _ _ _ _ => .int _
theorem od_ishr : OpD X W (inplaceOp .RShift) oShr := od_int iop_shr (fun _ _ h => of_decide_eq_true h) fun _ _ _ _ => .int _
def oAnd : O2 := oInt (fun _ _ => true) fun i j => .int (Builtin.bitAnd i j)
def oOr : O2 := oInt (fun _ _ => true) fun i j => .int (Builtin.bitOr i j)
def oXor : O2 := oInt (fun _ _ => true) fun i j => .int (Builtin.bitXor i j)
theorem od_and : OpD X W (binaryOp .BitAnd) oAnd := od_int0 op_and fun _ _ _ _ => .int _
theorem od_or : OpD X W (binaryOp .BitOr) oOr := od_int0 op_or fun _ _ _ _ => .int _
theorem od_xor : OpD X W (binaryOp .BitXor) oXor := od_int0 op_xor fun _ _ _ _ => .int _
theorem od_iand : OpD X W (inplaceOp .BitAnd) oAnd := od_int0 iop_and fun _ _ _ _ => .int _
theorem od_ior : OpD X W (inplaceOp .BitOr) oOr := od_int0 iop_or fun _ _ _ _ => .int _
theorem od_ixor : OpD X W (inplaceOp .BitXor) oXor := od_int0 iop_xor fun _ _ _ _ => .int _
/-! comparisons of ints (and of texts) -/
def oLt : O2 := fun d e S => match d, e with
  | .int i, .int j => .ok (.bl (decide (i < j))) S
  | .str x, .str y => .ok (.bl (decide (x < y))) S
  | _, _ => .stk
def oGt : O2 := oInt (fun _ _ => true) fun i j => .bl (decide (j < i))
def oLe : O2 := fun d e S => match d, e with
  | .int i, .int j => .ok (.bl (decide (i ≤ j))) S
  | .str x, .str y => .ok (.bl (!decide (y < x))) S
  | _, _ => .stk
def oGe : O2 := oInt (fun _ _ => true) fun i j => .bl (decide (j ≤ i))
theorem od_lt : OpD X W (compareOp .Lt) oLt := by
  refine ⟨_, op_lt.or op_lt_str, fun σ H μ S d e x y Q hs rx ry h => ?_⟩
  unfold oLt at h
  split at h
  · exact .inl ⟨_, _, rx.inv_int, ry.inv_int, h _ H μ .refl hs (.bl _)⟩
  · exact .inr ⟨_, _, rx.inv_str, ry.inv_str, h _ H μ .refl hs (.bl _)⟩
  · exact h.elim
theorem od_le : OpD X W (compareOp .LtE) oLe := by
  refine ⟨_, op_le.or op_le_str, fun σ H μ S d e x y Q hs rx ry h => ?_⟩
  unfold oLe at h
  split at h
  · exact .inl ⟨_, _, rx.inv_int, ry.inv_int, h _ H μ .refl hs (.bl _)⟩
  · exact .inr ⟨_, _, rx.inv_str, ry.inv_str, h _ H μ .refl hs (.bl _)⟩
  · exact h.elim
theorem od_gt : OpD X W (compareOp .Gt) oGt := od_int0 op_gt fun _ _ _ _ => .bl _
theorem od_ge : OpD X W (compareOp .GtE) oGe := od_int0 op_ge fun _ _ _ _ => .bl _
/-! is None -/
def isNonD : D → Bool | .non => true | _ => false
theorem isNonD_ok {K : PySem.W.Frag} {μ : Mu} {H : Hp} {d : D} {x : V} (r : RepV K μ H d x) : decide (x = V.non) = isNonD d := by
  cases r <;> simp [isNonD]
def oIsN : O2 := fun d e S => match e with | .non => .ok (.bl (isNonD d)) S | _ => .stk
def oNotN : O2 := fun d e S => match e with | .non => .ok (.bl (!isNonD d)) S | _ => .stk
theorem od_isN : OpD X W (compareOp .Is) oIsN := by
  refine ⟨_, op_isN, fun σ H μ S d e x y Q hs rx ry h => ?_⟩
  unfold oIsN at h
  split at h
  · exact ⟨ry.inv_non, h _ H μ .refl hs (by rw [isNonD_ok rx]; exact .bl _)⟩
  · exact h.elim
theorem od_notN : OpD X W (compareOp .IsNot) oNotN := by
  refine ⟨_, op_notN, fun σ H μ S d e x y Q hs rx ry h => ?_⟩
  unfold oNotN at h
  split at h
  · exact ⟨ry.inv_non, h _ H μ .refl hs (by rw [isNonD_ok rx]; exact .bl _)⟩
  · exact h.elim
/-! unary -/
def mNeg (m : ME) : ME := fun sd S => (m sd S).bind fun d S1 => match d with | .int i => .ok (.int (-i)) S1 | _ => .stk
theorem se_neg {a : Expr} {m : ME} {pos : Pos} (ha : SE X W a m) : SE X W (.UnaryOp .USub a pos) (mNeg m) :=
  (pe_un un_neg ha).impF fun σ H Q ⟨μ, S, sd, hs, hl, h⟩ => tE_bind hs hl h fun d S1 μ1 v H1 hs1 hl1 u1 r1 h1 => by
    split at h1
    · exact ⟨_, r1.inv_int, h1 _ H1 μ1 .refl hs1 (.int _)⟩
    · exact h1.elim
end

/-! ### sequences of the store -/
def cellL (S : List Cell) (n : Nat) : Option (List D) := match S[n]? with
  | some (.lst xs) => some xs
  | _ => none
def seqD (S : List Cell) : D → Option (List D)
  | .tup xs => some xs
  | .cst xs => some xs
  | .loc n => cellL S n
  | _ => none
section
variable {mg : Str → Option Value} {K : PySem.W.Frag} {μ : Mu} {S : List Cell} {H : Hp}
theorem StoRep.cellL (h : StoRep mg K μ S H) {n : Nat} {a : Addr} {xs : List D} (e : μ[n]? = some a) (hc : cellL S n = some xs) : ∃ vs, Rd H a (.lst vs) ∧ RepL K μ H xs vs := by
  unfold Fx.cellL at hc
  split at hc
  · rename_i ys es
    cases hc
    obtain ⟨vs, h1, r⟩ := h.at_ n _ a es e
    exact ⟨vs, .inl h1, r⟩
  · cases hc
theorem StoRep.seqD (h : StoRep mg K μ S H) {d : D} {x : V} {xs : List D} (r : RepV K μ H d x) (hc : seqD S d = some xs) : ∃ p vs, x = .ref p ∧ (SqL K H p vs ∨ SqT K H p vs) ∧ RepL K μ H xs vs := by
  cases r with
  | tup ht rl => cases hc; exact ⟨_, _, rfl, .inr ht, rl⟩
  | cst ht rl => cases hc; exact ⟨_, _, rfl, .inl ht.sq, rl⟩
  | loc e =>
    obtain ⟨vs, h1, r⟩ := h.cellL e hc
    exact ⟨_, vs, rfl, .inl (.inl h1), r⟩
  | _ => cases hc
end
/-! ### truth -/
def truD (S : List Cell) : D → Option Bool
  | .non => some false
  | .bl b => some b
  | .int i => some (i != 0)
  | .str x => if x.length ≤ sizeLine then some (!x.isEmpty) else none
  | .tup xs => some (!xs.isEmpty)
  | .cst xs => some (!xs.isEmpty)
  | .loc n => (cellL S n).map fun xs => !xs.isEmpty
  | .adr _ => none
  | .lam _ _ _ => none
theorem RepL.isEmpty {K : PySem.W.Frag} {μ : Mu} {H : Hp} {ds : List D} {vs : List V} (r : RepL K μ H ds vs) : ds.isEmpty = vs.isEmpty := by cases r <;> rfl
section
variable {X : Cx} {W : WX}
theorem truD_ok {μ : Mu} {S : List Cell} {H : Hp} {d : D} {x : V} {b : Bool} (hs : StoRep X.mg X.K μ S H) (r : RepV X.K μ H d x) (h : truD S d = some b) : TruV X.K x H b := by
  cases r with
  | non => exact (Option.some.inj h).symm
  | bl c => exact (Option.some.inj h).symm
  | int i => exact (Option.some.inj h).symm
  | str y =>
    have h : (if y.length ≤ sizeLine then some (!y.isEmpty) else none) = some b := h
    split at h
    · rename_i hz
      refine ⟨by show y.toArray.size ≤ _; simpa using hz, ?_⟩
      rw [← Option.some.inj h]
      show _ = ((y.toArray.size : Int) != 0)
      cases y with
      | nil => rfl
      | cons a r =>
        simp only [List.isEmpty_cons, Bool.not_false, List.size_toArray, List.length_cons]
        symm
        exact bne_iff_ne.mpr (by omega)
    · cases h
  | tup ht rl => exact .inr (.inl ⟨_, ht, by rw [← rl.isEmpty]; exact (Option.some.inj h).symm⟩)
  | cst ht rl => exact .inl ⟨_, ht.sq, by rw [← rl.isEmpty]; exact (Option.some.inj h).symm⟩
  | loc e =>
    unfold truD at h
    obtain ⟨xs, hx, rfl⟩ := Option.map_eq_some_iff.mp h
    obtain ⟨vs, h1, rl⟩ := hs.cellL e hx
    exact .inl ⟨vs, .inl h1, by rw [rl.isEmpty]⟩
  | adr a => cases h
  | lam _ => cases h
def optR {α : Type} (o : Option α) (S : List Cell) : Res α := match o with | some a => .ok a S | none => .stk
def mTru (m : ME) : MT := fun sd S => (m sd S).bind fun d S1 => optR (truD S1 d) S1
theorem st_tru {e : Expr} {m : ME} (he : SE X W e m) (hp : ∀ whole, isTrue e X.env whole = (do let v ← whole; standAt e.pos; holding [v] (truthy v)) := by intro _; rfl) : ST X W e (mTru m) :=
  (pt_truth he hp).impF fun σ H Q ⟨μ, S, sd, hs, hl, h⟩ => tE_bind (Rep' := RepB) hs hl h fun d S1 μ1 v H1 hs1 hl1 u1 r1 h1 => by
    unfold optR at h1
    split at h1
    · rename_i b hb
      exact ⟨b, truD_ok hs1 r1 hb, h1 b H1 μ1 .refl hs1 rfl⟩
    · exact h1.elim
def blD : D → Option Bool | .bl b => some b | _ => none
def mTst (m : ME) : MT := fun sd S => (m sd S).bind fun d S1 => optR (blD d) S1
theorem mTst_of {e : Expr} {m : ME} {t : TE} (h : ∀ σ H Q, tE X W m σ H Q → t σ H Q) (σ : St) (H : Hp) (Q : Bool → Hp → Prop) (q : tT X W (mTst m) σ H Q) : tTest t σ H Q := by
  obtain ⟨μ, S, sd, hs, hl, q⟩ := q
  refine h σ H _ (tE_bind (Rep' := RepB) hs hl q fun d S1 μ1 v H1 hs1 hl1 u1 r1 h1 => ?_)
  unfold optR blD at h1
  cases r1 with
  | bl b => exact ⟨b, rfl, h1 b H1 μ1 .refl hs1 rfl⟩
  | _ => exact h1.elim
theorem st_cmp {op : CmpOp} {o : O2} {a b : Expr} {ma mb : ME} {pos : Pos} (ho : OpD X W (compareOp op) o) (ha : SE X W a ma) (hb : SE X W b mb) (hm : behindInMarks op b = false := by first | exact nomark _ | rfl) : ST X W (.Compare a [op] [b] pos) (mTst (mBin o ma mb)) := by
  obtain ⟨r, h1, h2⟩ := ho
  exact (pt_cmpR h1 ha hb hm).impF (mTst_of (e := a) (bin_of ha hb h2))
/-! chains a op b op' c -/
def mChain (o o' : O2) (a b c : ME) : ME := fun sd S => (a sd S).bind fun d S1 => (b sd S1).bind fun e S2 => (o d e S2).bind fun z S3 => match z with
  | .bl k => if k = true then (c sd S3).bind fun f S4 => o' e f S4 else .ok (.bl false) S3
  | _ => .stk
theorem chain_of {a b c : Expr} {ma mb mc : ME} {o o' : O2} {r r' : R2} (ha : SE X W a ma) (hb : SE X W b mb) (hc : SE X W c mc)
    (ho : ∀ σ H μ S d e x y Q, StoRep X.mg X.K μ S H → RepV X.K μ H d x → RepV X.K μ H e y → FinA X.mg X.K (RepV X.K) (fun c d H' => W c d σ H') μ H (o d e S) Q → r x y H Q)
    (ho' : ∀ σ H μ S d e x y Q, StoRep X.mg X.K μ S H → RepV X.K μ H d x → RepV X.K μ H e y → FinA X.mg X.K (RepV X.K) (fun c d H' => W c d σ H') μ H (o' d e S) Q → r' x y H Q) (σ : St) (H : Hp) (Q : VK) (h : tE X W (mChain o o' ma mb mc) σ H Q) :
    tChain r r' (tE X W ma) (tE X W mb) (tE X W mc) σ H Q := by
  obtain ⟨μ, S, sd, hs, hl, h⟩ := h
  refine tE_bind hs hl h fun d S1 μ1 v H1 hs1 hl1 u1 r1 h1 => tE_bind hs1 hl1 h1 fun e S2 μ2 w H2 hs2 hl2 u2 r2 h2 => ?_
  refine ho σ H2 μ2 S2 d e v w _ hs2 (r1.up u2) r2 ?_
  have h3 := FinA.bind (Rep := RepV X.K) h2
  generalize hr : o d e S2 = ro at h2 h3
  cases ro with
  | ok z S3 =>
    intro zv H3 μ3 u3 hs3 r3
    have h4 := h3 zv H3 μ3 u3 hs3 r3
    cases r3 with
    | bl k =>
      refine ⟨k, rfl, ?_⟩
      cases k with
      | true =>
        simp only [if_true] at h4 ⊢
        exact tE_bind hs3 (hl2.up u3) h4 fun f S4 μ4 y H4 hs4 hl4 u4 r4 h5 => ho' σ H4 μ4 S4 e f w y Q hs4 ((r2.up u3).up u4) r4 h5
      | false =>
        simp only [Bool.false_eq_true, if_false] at h4 ⊢
        exact h4 _ H3 μ3 .refl hs3 (.bl _)
    | _ => exact h4.elim
  | exc x S3 => exact h3
  | stk => exact h3
theorem se_chain {op op' : CmpOp} {o o' : O2} {a b c : Expr} {ma mb mc : ME} {pos : Pos} (ho : OpD X W (compareOp op) o) (ho' : OpD X W (compareOp op') o') (ha : SE X W a ma) (hb : SE X W b mb) (hc : SE X W c mc)
    (hm : lastMarks [op, op'] [b, c] = false := by with_unfolding_all rfl) : SE X W (.Compare a [op, op'] [b, c] pos) (mChain o o' ma mb mc) := by
  obtain ⟨r, h1, h2⟩ := ho
  obtain ⟨r', h1', h2'⟩ := ho'
  exact (pe_chain h1 h1' ha hb hc hm).impF (chain_of ha hb hc h2 h2')
theorem st_chain {op op' : CmpOp} {o o' : O2} {a b c : Expr} {ma mb mc : ME} {pos : Pos} (ho : OpD X W (compareOp op) o) (ho' : OpD X W (compareOp op') o') (ha : SE X W a ma) (hb : SE X W b mb) (hc : SE X W c mc) (hm : lastMarks [op, op'] [b, c] = false := by with_unfolding_all rfl) : ST X W (.Compare a [op, op'] [b, c] pos) (mTst (mChain o o' ma mb mc)) := by
  obtain ⟨r, h1, h2⟩ := ho
  obtain ⟨r', h1', h2'⟩ := ho'
  exact (pt_chain h1 h1' ha hb hc hm).impF (mTst_of (e := a) (chain_of ha hb hc h2 h2'))
/-! and, or, not -/
abbrev SW (X : Cx) (W : WX) (e : Expr) (m : MT) : Prop := PW X e (tT X W m)
theorem _root_.L2.PW.impF {X : Cx} {e : Expr} {t t' : TT} (h : PW X e t) (i : ∀ σ H Q, t' σ H Q → t σ H Q) : PW X e t' := ⟨fun wh pins s σ H Q I q => h.run wh pins s σ H Q I (i σ H Q q)⟩
def mAnd (a b : MT) : MT := fun sd S => (a sd S).bind fun c S1 => if c = true then b sd S1 else .ok false S1
def mOr (a b : MT) : MT := fun sd S => (a sd S).bind fun c S1 => if c = true then .ok true S1 else b sd S1
def mNot (a : MT) : MT := fun sd S => (a sd S).bind fun c S1 => .ok (!c) S1
theorem sw_and1 {a : Expr} {ma : MT} {pos : Pos} (h : ST X W a ma) : SW X W (.BoolOp .And [a] pos) ma := pw_and1 h
theorem sw_or1 {a : Expr} {ma : MT} {pos : Pos} (h : ST X W a ma) : SW X W (.BoolOp .Or [a] pos) ma := pw_or1 h
theorem sw_and {a b : Expr} {rest : List Expr} {ma mb : MT} {pos : Pos} (h : ST X W a ma) (hb : SW X W (.BoolOp .And (b :: rest) pos) mb) : SW X W (.BoolOp .And (a :: b :: rest) pos) (mAnd ma mb) :=
  (pw_and h hb).impF fun σ H Q ⟨μ, S, sd, hs, hl, h⟩ => tT_bind hs hl h fun d S1 μ1 H1 hs1 hl1 u1 h1 => by
    cases d with
    | true => exact ⟨μ1, S1, sd, hs1, hl1, h1⟩
    | false => exact h1 false H1 μ1 .refl hs1 rfl
theorem sw_or {a b : Expr} {rest : List Expr} {ma mb : MT} {pos : Pos} (h : ST X W a ma) (hb : SW X W (.BoolOp .Or (b :: rest) pos) mb) : SW X W (.BoolOp .Or (a :: b :: rest) pos) (mOr ma mb) :=
  (pw_or h hb).impF fun σ H Q ⟨μ, S, sd, hs, hl, h⟩ => tT_bind hs hl h fun d S1 μ1 H1 hs1 hl1 u1 h1 => by
    cases d with
    | true => exact h1 true H1 μ1 .refl hs1 rfl
    | false => exact ⟨μ1, S1, sd, hs1, hl1, h1⟩
theorem st_sw {e : Expr} {m : MT} (h : SW X W e m) : ST X W e m := h.pt
theorem st_not {a : Expr} {ma : MT} {pos : Pos} (h : ST X W a ma) : ST X W (.UnaryOp .Not a pos) (mNot ma) :=
  (pt_not h).impF fun σ H Q ⟨μ, S, sd, hs, hl, h⟩ => tT_bind hs hl h fun d S1 μ1 H1 hs1 hl1 u1 h1 => h1 (!d) H1 μ1 .refl hs1 rfl
/-! .. as values -/
def mAndV (a b : ME) : ME := fun sd S => (a sd S).bind fun d S1 => match truD S1 d with
  | some true => b sd S1
  | some false => .ok d S1
  | none => .stk
def mOrV (a b : ME) : ME := fun sd S => (a sd S).bind fun d S1 => match truD S1 d with
  | some true => .ok d S1
  | some false => b sd S1
  | none => .stk
def mNotV (a : ME) : ME := fun sd S => (a sd S).bind fun d S1 => match truD S1 d with
  | some b => .ok (.bl (!b)) S1
  | none => .stk
theorem se_one {op : BoolOp} {a : Expr} {m : ME} {pos : Pos} (h : SE X W a m) : SE X W (.BoolOp op [a] pos) m := pe_one h
theorem se_and {a b : Expr} {rest : List Expr} {ma mb : ME} {pos : Pos} (h : SE X W a ma) (hb : SE X W (.BoolOp .And (b :: rest) pos) mb) : SE X W (.BoolOp .And (a :: b :: rest) pos) (mAndV ma mb) :=
  (pe_andT h hb).impF fun σ H Q ⟨μ, S, sd, hs, hl, h⟩ => tE_bind hs hl h fun d S1 μ1 v H1 hs1 hl1 u1 r1 h1 => by
    split at h1
    · rename_i e
      exact ⟨true, truD_ok hs1 r1 e, ⟨μ1, S1, sd, hs1, hl1, h1⟩⟩
    · rename_i e
      exact ⟨false, truD_ok hs1 r1 e, h1 _ H1 μ1 .refl hs1 r1⟩
    · exact h1.elim
theorem se_or {a b : Expr} {rest : List Expr} {ma mb : ME} {pos : Pos} (h : SE X W a ma) (hb : SE X W (.BoolOp .Or (b :: rest) pos) mb) : SE X W (.BoolOp .Or (a :: b :: rest) pos) (mOrV ma mb) :=
  (pe_orT h hb).impF fun σ H Q ⟨μ, S, sd, hs, hl, h⟩ => tE_bind hs hl h fun d S1 μ1 v H1 hs1 hl1 u1 r1 h1 => by
    split at h1
    · rename_i e
      exact ⟨true, truD_ok hs1 r1 e, h1 _ H1 μ1 .refl hs1 r1⟩
    · rename_i e
      exact ⟨false, truD_ok hs1 r1 e, ⟨μ1, S1, sd, hs1, hl1, h1⟩⟩
    · exact h1.elim
theorem se_not {a : Expr} {ma : ME} {pos : Pos} (h : SE X W a ma) : SE X W (.UnaryOp .Not a pos) (mNotV ma) :=
  (pe_notT h).impF fun σ H Q ⟨μ, S, sd, hs, hl, h⟩ => tE_bind hs hl h fun d S1 μ1 v H1 hs1 hl1 u1 r1 h1 => by
    split at h1
    · rename_i b e
      exact ⟨b, truD_ok hs1 r1 e, h1 _ H1 μ1 .refl hs1 (.bl _)⟩
    · exact h1.elim
def mIfE (t : MT) (a b : ME) : ME := fun sd S => (t sd S).bind fun c S1 => if c = true then a sd S1 else b sd S1
theorem se_ife {c a b : Expr} {t : MT} {ma mb : ME} {pos : Pos} (hc : ST X W c t) (ha : SE X W a ma) (hb : SE X W b mb) : SE X W (.IfExp c a b pos) (mIfE t ma mb) :=
  (pe_ifExp hc ha hb).impF fun σ H Q ⟨μ, S, sd, hs, hl, h⟩ => tT_bind hs hl h fun d S1 μ1 H1 hs1 hl1 u1 h1 => by
    cases d with
    | true => exact ⟨μ1, S1, sd, hs1, hl1, h1⟩
    | false => exact ⟨μ1, S1, sd, hs1, hl1, h1⟩
end

/-! ### built-in calls -/
abbrev OC := List D → List Cell → Res D
def CallD (X : Cx) (W : WX) (f : Value) (o : OC) : Prop :=
  ∃ r : List V → Hp → VK → Prop, CallR X f r ∧ ∀ σ H μ S ds vs Q, StoRep X.mg X.K μ S H → RepL X.K μ H ds vs → FinA X.mg X.K (RepV X.K) (fun c d H' => W c d σ H') μ H (o ds S) Q → r vs H Q
def mB (o : OC) (a : MA) : ME := fun sd S => (a sd S).bind fun ds S1 => o ds S1
section
variable {X : Cx} {W : WX}
theorem se_callB {id : String} {x : Str} {o : OC} {e : Expr} {es : List Expr} {ma : MA} {p pos : Pos} (hc : CallD X W (.builtin id) o) (hm : X.mg x = none) (ha : SA X W (e :: es) ma) (hv : bootBuiltins x = some (.builtin id) := by decide +kernel) (hg : Gl X x := by rfl) (hn : x ≠ "__name__" := by decide) (hdb : (x == ("__debug__" : Str)) = false := by decide)
    (he : starEach (e :: es) X.env = (false, eval e X.env) :: starEach es X.env := by rfl) (hpl : (backTo pos (starEach es X.env)).any (·.1) = false := by rfl) : SE X W (.Call (.Name x p) (e :: es) [] pos) (mB o ma) := by
  obtain ⟨r, h1, h2⟩ := hc
  exact (pe_callB h1 hg hm hv ha hn hdb he hpl).impF fun σ H Q ⟨μ, S, sd, hs, hl, h⟩ => tA_bind hs hl h fun ds S1 μ1 vs H1 hs1 hl1 u1 r1 h1 => h2 σ H1 μ1 S1 ds vs Q hs1 r1 h1
theorem se_callTy {T : String} {x : Str} {o : OC} {e : Expr} {es : List Expr} {ma : MA} {p pos : Pos} (hc : CallD X W (.type T) o) (hm : X.mg x = none) (ha : SA X W (e :: es) ma) (hv : bootBuiltins x = some (.type T) := by decide +kernel) (hg : Gl X x := by rfl) (hn : x ≠ "__name__" := by decide) (hdb : (x == ("__debug__" : Str)) = false := by decide)
    (he : starEach (e :: es) X.env = (false, eval e X.env) :: starEach es X.env := by rfl) (hpl : (backTo pos (starEach es X.env)).any (·.1) = false := by rfl) : SE X W (.Call (.Name x p) (e :: es) [] pos) (mB o ma) := by
  obtain ⟨r, h1, h2⟩ := hc
  exact (pe_callTy h1 hg hm hv ha hn hdb he hpl).impF fun σ H Q ⟨μ, S, sd, hs, hl, h⟩ => tA_bind hs hl h fun ds S1 μ1 vs H1 hs1 hl1 u1 r1 h1 => h2 σ H1 μ1 S1 ds vs Q hs1 r1 h1
theorem RepL.one {K : PySem.W.Frag} {μ : Mu} {H : Hp} {d : D} {vs : List V} (h : RepL K μ H [d] vs) : ∃ x, vs = [x] ∧ RepV K μ H d x := by
  cases h with
  | cons h r => cases r; exact ⟨_, rfl, h⟩
theorem RepL.two {K : PySem.W.Frag} {μ : Mu} {H : Hp} {d e : D} {vs : List V} (h : RepL K μ H [d, e] vs) : ∃ x y, vs = [x, y] ∧ RepV K μ H d x ∧ RepV K μ H e y := by
  cases h with
  | cons h r =>
    obtain ⟨y, rfl, h2⟩ := RepL.one r
    exact ⟨_, y, rfl, h, h2⟩
def oLen : OC := fun ds S => match ds with
  | [.str x] => if x.length ≤ sizeLine then .ok (.int x.length) S else .stk
  | [d] => match seqD S d with
    | some xs => .ok (.int xs.length) S
    | none => .stk
  | _ => .stk
theorem cd_len : CallD X W (.builtin "len") oLen := by
  refine ⟨_, call_len, fun σ H μ S ds vs Q hs r h => ?_⟩
  unfold oLen at h
  split at h
  · split at h
    · rename_i x hz
      obtain ⟨v, rfl, r1⟩ := r.one
      cases r1
      exact ⟨_, x.length, rfl, ⟨by show x.toArray.size ≤ _; simpa using hz, by show _ = x.toArray.size; simp⟩, h _ H μ .refl hs (.int _)⟩
    · exact h.elim
  · split at h
    · rename_i d _ xs e
      obtain ⟨v, rfl, r1⟩ := r.one
      obtain ⟨p, ys, rfl, hq, rl⟩ := hs.seqD r1 e
      refine ⟨_, xs.length, rfl, ?_, h _ H μ .refl hs (.int _)⟩
      rcases hq with hq | hq
      · exact .inl ⟨ys, hq, rl.length⟩
      · exact .inr ⟨ys, hq, rl.length⟩
    · exact h.elim
  · exact h.elim
def oAbs : OC := fun ds S => match ds with | [.int i] => .ok (.int (if i < 0 then -i else i)) S | _ => .stk
theorem cd_abs : CallD X W (.builtin "abs") oAbs := by
  refine ⟨_, call_abs, fun σ H μ S ds vs Q hs r h => ?_⟩
  unfold oAbs at h
  split at h
  · obtain ⟨v, rfl, r1⟩ := r.one
    cases r1
    exact ⟨_, rfl, h _ H μ .refl hs (.int _)⟩
  · exact h.elim
def oIntC : OC := fun ds S => match ds with | [.int i] => .ok (.int i) S | [.bl b] => .ok (.int (if b then 1 else 0)) S | _ => .stk
theorem cd_int : CallD X W (.type "int") oIntC := by
  refine ⟨_, call_int1, fun σ H μ S ds vs Q hs r h => ?_⟩
  unfold oIntC at h
  split at h
  · obtain ⟨v, rfl, r1⟩ := r.one
    cases r1
    exact .inl ⟨_, rfl, h _ H μ .refl hs (.int _)⟩
  · obtain ⟨v, rfl, r1⟩ := r.one
    cases r1
    exact .inr ⟨_, rfl, h _ H μ .refl hs (.int _)⟩
  · exact h.elim
def oListC : OC := fun ds S => match ds with
  | [d] => match seqD S d with
    | some xs => .ok (.loc S.length) (S ++ [.lst xs])
    | none => .stk
  | _ => .stk
theorem cd_list : CallD X W (.type "list") oListC := by
  refine ⟨_, call_list_of, fun σ H μ S ds vs Q hs r h => ?_⟩
  unfold oListC at h
  split at h
  · split at h
    · rename_i d xs e
      obtain ⟨v, rfl, r1⟩ := r.one
      obtain ⟨p, ys, rfl, hq, rl⟩ := hs.seqD r1 e
      exact ⟨p, ys, rfl, hq, fun l hn => h (.ref l) _ (μ ++ [l]) (up_new hn) (hs.alloc hn ⟨ys, upd_same, rl.up (up_new hn)⟩) (.loc (by rw [← hs.len]; simp))⟩
    · exact h.elim
  · exact h.elim
def oTupC : OC := fun ds S => match ds with
  | [d] => match seqD S d with
    | some xs => .ok (.tup xs) S
    | none => .stk
  | _ => .stk
theorem cd_tuple : CallD X W (.type "tuple") oTupC := by
  refine ⟨_, call_tuple_of, fun σ H μ S ds vs Q hs r h => ?_⟩
  unfold oTupC at h
  split at h
  · split at h
    · rename_i d xs e
      obtain ⟨v, rfl, r1⟩ := r.one
      cases r1 with
      | tup ht rl => cases e; exact ⟨_, _, rfl, .inr ⟨ht, h _ H μ .refl hs (.tup ht rl)⟩⟩
      | cst ht rl => cases e; exact ⟨_, _, rfl, .inl ⟨ht.sq, fun l hn => h (.ref l) _ μ (up_tmp hn) (hs.tmp hn) (.tup (SqT.of upd_same) (rl.up (up_tmp hn)))⟩⟩
      | loc en =>
        obtain ⟨ys, hq, rl⟩ := hs.cellL en e
        exact ⟨_, _, rfl, .inl ⟨.inl hq, fun l hn => h (.ref l) _ μ (up_tmp hn) (hs.tmp hn) (.tup (SqT.of upd_same) (rl.up (up_tmp hn)))⟩⟩
      | _ => cases e
    · exact h.elim
  · exact h.elim
def intsD : List D → Option (List Int)
  | [] => some []
  | .int i :: r => (intsD r).map (i :: ·)
  | _ => none
theorem intsD_ok {K : PySem.W.Frag} {μ : Mu} {H : Hp} : ∀ {ds : List D} {vs : List V} {ns : List Int}, RepL K μ H ds vs → intsD ds = some ns → vs = ns.map V.int
  | _, _, _, .nil, h => by cases h; rfl
  | _, _, ns, .cons (d := d) h r, e => by
    cases h with
    | int i =>
      unfold intsD at e
      obtain ⟨ms, e1, rfl⟩ := Option.map_eq_some_iff.mp e
      rw [intsD_ok r e1]; rfl
    | _ => cases e
def blsD : List D → Option (List Bool)
  | [] => some []
  | .bl i :: r => (blsD r).map (i :: ·)
  | _ => none
theorem blsD_ok {K : PySem.W.Frag} {μ : Mu} {H : Hp} : ∀ {ds : List D} {vs : List V} {ns : List Bool}, RepL K μ H ds vs → blsD ds = some ns → vs = ns.map V.bl
  | _, _, _, .nil, h => by cases h; rfl
  | _, _, ns, .cons (d := d) h r, e => by
    cases h with
    | bl i =>
      unfold blsD at e
      obtain ⟨ms, e1, rfl⟩ := Option.map_eq_some_iff.mp e
      rw [blsD_ok r e1]; rfl
    | _ => cases e
def lstD (S : List Cell) : D → Option (List D)
  | .loc n => cellL S n
  | .cst xs => some xs
  | _ => none
theorem lstD_ok {mg : Str → Option Value} {K : PySem.W.Frag} {μ : Mu} {S : List Cell} {H : Hp} (h : StoRep mg K μ S H) {d : D} {x : V} {xs : List D} (r : RepV K μ H d x) (hc : lstD S d = some xs) : ∃ p vs, x = .ref p ∧ SqL K H p vs ∧ RepL K μ H xs vs := by
  cases r with
  | loc e =>
    obtain ⟨vs, h1, r⟩ := h.cellL e hc
    exact ⟨_, vs, rfl, .inl h1, r⟩
  | cst ht rl => cases hc; exact ⟨_, _, rfl, ht.sq, rl⟩
  | _ => cases hc
theorem sumT_raw {prog : Program} {w : World} {A : Around} {E : Value → Shared → Prop} {s : Shared} {t : Addr} {its : List Value} {ns : List Int} {Q : Value → Shared → Prop} (hh : A.handled = none) (hl : s.heap.IsTuple t its.toArray) (hi : IntsAre its ns)
    (h : ∀ h' tk t', (∀ b o, s.heap.get? b = some o → h'.get? b = some o) → Q (.int ns.sum t') { s with heap := h', toks := tk }) : wpAny (model prog w) A (call (.builtin "sum") [.ref t]) Q E s := by
  obtain ⟨xs, e⟩ := hi.allInts.items
  have hn : numsOf (intItems xs).toList = ns := by rw [← e]; exact hi.numsOf
  rw [nums_intItems] at hn
  rw [e] at hl
  refine PySem.W.ktm_sumG hh hl fun h' tk t' hk => ?_
  have := h h' tk t' hk
  rw [preSum_eq, List.take_of_length_le (by simp), hn]; exact this
def oSum : OC := fun ds S => match ds with
  | [d] => match (seqD S d).bind intsD with
    | some ns => .ok (.int ns.sum) S
    | none => .stk
  | _ => .stk
theorem cr_sumS {X : Cx} (hc : X.calm = true) : CallR X (.builtin "sum") (fun vs H Q => ∃ (a : Addr) (ns : List Int), vs = [V.ref a] ∧ (SqL X.K H a (ns.map V.int) ∨ SqT X.K H a (ns.map V.int)) ∧ Q (.int ns.sum) H) := by
  intro pins s σ H vs us Q I r h
  obtain ⟨a, ns, rfl, hs | hs, q⟩ := h
  · exact cr_sum hc pins s σ H _ us Q I r ⟨a, ns, rfl, hs, q⟩
  · obtain ⟨its, rv, hl, _⟩ := I.tuple hs
    rw [Vals.ref1 r]
    exact sumT_raw (I.ok.hd hc) (show s.heap.IsTuple a its.toArray from hl) rv.ints fun h' tk t' hk => ⟨.int _, H, I.kept hk, ⟨_, rfl⟩, q⟩
theorem cd_sum (hc : X.calm = true) : CallD X W (.builtin "sum") oSum := by
  refine ⟨_, cr_sumS hc, fun σ H μ S ds vs Q hs r h => ?_⟩
  unfold oSum at h
  split at h
  · split at h
    · rename_i d ns e
      obtain ⟨v, rfl, r1⟩ := r.one
      obtain ⟨xs, e1, e2⟩ := Option.bind_eq_some_iff.mp e
      obtain ⟨p, ys, rfl, hq, rl⟩ := hs.seqD r1 e1
      rw [intsD_ok rl e2] at hq
      exact ⟨p, ns, rfl, hq, h _ H μ .refl hs (.int _)⟩
    · exact h.elim
  · exact h.elim
def oAll : OC := fun ds S => match ds with
  | [d] => match (lstD S d).bind blsD with
    | some bs => .ok (.bl (bs.all id)) S
    | none => .stk
  | _ => .stk
def oAny : OC := fun ds S => match ds with
  | [d] => match (lstD S d).bind blsD with
    | some bs => .ok (.bl (bs.any id)) S
    | none => .stk
  | _ => .stk
theorem cd_all (hc : X.calm = true) : CallD X W (.builtin "all") oAll := by
  refine ⟨_, cr_all hc, fun σ H μ S ds vs Q hs r h => ?_⟩
  unfold oAll at h
  split at h
  · split at h
    · rename_i d ns e
      obtain ⟨v, rfl, r1⟩ := r.one
      obtain ⟨xs, e1, e2⟩ := Option.bind_eq_some_iff.mp e
      obtain ⟨p, ys, rfl, hq, rl⟩ := lstD_ok hs r1 e1
      exact ⟨p, ns, rfl, by rw [← blsD_ok rl e2]; exact hq, h _ H μ .refl hs (.bl _)⟩
    · exact h.elim
  · exact h.elim
theorem cd_any (hc : X.calm = true) : CallD X W (.builtin "any") oAny := by
  refine ⟨_, cr_any hc, fun σ H μ S ds vs Q hs r h => ?_⟩
  unfold oAny at h
  split at h
  · split at h
    · rename_i d ns e
      obtain ⟨v, rfl, r1⟩ := r.one
      obtain ⟨xs, e1, e2⟩ := Option.bind_eq_some_iff.mp e
      obtain ⟨p, ys, rfl, hq, rl⟩ := lstD_ok hs r1 e1
      exact ⟨p, ns, rfl, by rw [← blsD_ok rl e2]; exact hq, h _ H μ .refl hs (.bl _)⟩
    · exact h.elim
  · exact h.elim
/-! isinstance(x, T), T a built-in type -/
def tyD (S : List Cell) : D → Option String
  | .non => some "NoneType"
  | .bl _ => some "bool"
  | .int _ => some "int"
  | .str _ => some "str"
  | .tup _ => some "tuple"
  | .cst _ => some "list"
  | .loc n => match S[n]? with | some (.lst _) => some "list" | some (.dic _) => some "dict" | _ => none
  | .adr _ => none
  | .lam _ _ _ => none
def isiD (S : List Cell) (T : String) (d : D) : Option Bool := (tyD S d).bind fun t => kitB t T
theorem tyD_ok {μ : Mu} {S : List Cell} {H : Hp} {d : D} {x : V} {t : String} (hs : StoRep X.mg X.K μ S H) (r : RepV X.K μ H d x) (h : tyD S d = some t) : TyX X.K H x (.type t) := by
  cases r with
  | non => cases h; exact .base .non
  | bl c => cases h; exact .base (.bl _)
  | int i => cases h; exact .base (.int _)
  | str y => cases h; exact .base (.str _)
  | tup ht rl =>
    cases h
    rcases ht with (ht | ⟨o, ht⟩) | ⟨o, its, n, hk, hc, _⟩
    · exact .base (.tup ht)
    · exact .fTuple ht
    · exact .kTuple hk hc
  | cst ht rl =>
    cases h
    rcases ht with ⟨o, ht⟩ | ⟨o, its, n, hk, hc, _⟩
    · exact .base (.frz ht)
    · exact .kList hk hc
  | @loc n a e =>
    unfold tyD at h
    simp only at h
    split at h
    · rename_i xs es
      cases h
      obtain ⟨vs, h1, _⟩ := hs.at_ n _ a es e
      exact .base (.lst h1)
    · rename_i kvs es
      cases h
      obtain ⟨ws, h1, _⟩ := hs.at_ n _ a es e
      exact .base (.dK h1)
    · cases h
  | adr a => cases h
  | lam _ => cases h
def mIsi (T : String) (m : ME) : ME := fun sd S => (m sd S).bind fun d S1 => match isiD S1 T d with
  | some b => .ok (.bl b) S1
  | none => .stk
theorem se_isi {T : String} {x : Str} {e : Expr} {m : ME} {p p2 pos : Pos} (hm : X.mg "isinstance" = none) (hm2 : X.mg x = none) (he : SE X W e m) (hv : bootBuiltins x = some (.type T) := by decide +kernel) (hg : Gl X "isinstance" := by rfl) (hg2 : Gl X x := by rfl)
    (hn : x ≠ "__name__" := by decide) (hdb : (x == ("__debug__" : Str)) = false := by decide)
    (hst : starEach [e, .Name x p2] X.env = (false, eval e X.env) :: starEach [.Name x p2] X.env := by rfl) : SE X W (.Call (.Name "isinstance" p) [e, .Name x p2] [] pos) (mIsi T m) :=
  (pe_callB call_isi hg hm PyProof.Rows.boot_isinstance (pa_cons he (pa_cons (pe_bltn (v := .ty T) hg2 hm2 hv rfl hn hdb) pa_nil) hst) (he := hst)).impF fun σ H Q ⟨μ, S, sd, hs, hl, h⟩ => tE_bind hs hl h fun d S1 μ1 v H1 hs1 hl1 u1 r1 h1 => by
    split at h1
    · rename_i b e
      obtain ⟨t, e1, e2⟩ := Option.bind_eq_some_iff.mp e
      exact ⟨v, .ty T, .type t, .type T, b, rfl, .ty T, tyD_ok hs1 r1 e1, kit_ty e2, h1 _ H1 μ1 .refl hs1 (.bl _)⟩
    · exact h1.elim
end
end Fx

namespace Fx
open PySem PySem.Spec PyProof.Rows L2

/-! ### subscripts, slices -/
section
variable {X : Cx} {W : WX}
def oIx : O2 := fun d e S => match d, e with
  | .str x, .int i => if x.length ≤ sizeLine then optR ((atI x i).map fun c => .str [c]) S else .stk
  | d, .int i => optR ((seqD S d).bind fun xs => atI xs i) S
  | _, _ => .stk
theorem atI_rep {K : PySem.W.Frag} {μ : Mu} {H : Hp} {ds : List D} {vs : List V} {i : Int} {d : D} (r : RepL K μ H ds vs) (h : atI ds i = some d) : ∃ v, atI vs i = some v ∧ RepV K μ H d v := by
  unfold atI at h ⊢
  rw [← r.length]
  obtain ⟨j, e1, e2⟩ := Option.bind_eq_some_iff.mp h
  obtain ⟨v, e3, r3⟩ := r.getD e2
  exact ⟨v, by rw [e1]; exact e3, r3⟩
theorem ix_old {σ : St} {H : Hp} {μ : Mu} {S : List Cell} {d e : D} {x y : V} {Q : VK} (hs : StoRep X.mg X.K μ S H) (rx : RepV X.K μ H d x) (ry : RepV X.K μ H e y) (h : FinA X.mg X.K (RepV X.K) (fun c d H' => W c d σ H') μ H (oIx d e S) Q) : rIx X.K x y H Q := by
  unfold oIx at h
  split at h
  · rename_i z i
    split at h
    · rename_i hz
      unfold optR at h
      split at h
      · rename_i w ew
        obtain ⟨c, e1, rfl⟩ := Option.map_eq_some_iff.mp ew
        refine .inr (.inr ⟨_, i, c, rx.inv_str, ry.inv_int, by show z.toArray.size ≤ _; simpa using hz, by simpa using e1, h _ H μ .refl hs (.str [c])⟩)
      · exact h.elim
    · exact h.elim
  · rename_i i _
    unfold optR at h
    split at h
    · rename_i w ew
      obtain ⟨xs, e1, e2⟩ := Option.bind_eq_some_iff.mp ew
      obtain ⟨p, vs, rfl, hq, rl⟩ := hs.seqD rx e1
      obtain ⟨v, e3, r3⟩ := atI_rep rl e2
      rcases hq with hq | hq
      · exact .inl ⟨p, vs, i, v, rfl, ry.inv_int, hq, e3, h _ H μ .refl hs r3⟩
      · exact .inr (.inl ⟨p, vs, i, v, rfl, ry.inv_int, hq, e3, h _ H μ .refl hs r3⟩)
    · exact h.elim
  · exact h.elim
abbrev MO := Sl → List Cell → Res (Option Int)
theorem se_ix {a b : Expr} {ma mb : ME} {pos : Pos} (ha : SE X W a ma) (hb : SE X W b mb) (hp : PlainIx b := by intro _ _; rfl) : SE X W (.Subscript a b pos) (mBin oIx ma mb) :=
  (pe_ix ix_seq ha hb hp).impF (bin_of ha hb fun σ H μ S d e x y Q hs rx ry h => ix_old hs rx ry h)

def tO (X : Cx) (W : WX) (m : MO) : TO := fun σ H Q => ∃ μ S sd, StoRep X.mg X.K μ S H ∧ SlRep X.K μ H sd σ ∧ FinA X.mg X.K (fun _ _ a b => a = b) (fun c d H' => W c d σ H') μ H (m sd S) Q
abbrev SO (X : Cx) (W : WX) (e : Option Expr) (m : MO) : Prop := PO X e (tO X W m)
theorem _root_.L2.PO.impF {X : Cx} {e : Option Expr} {t t' : TO} (h : PO X e t) (i : ∀ σ H Q, t' σ H Q → t σ H Q) : PO X e t' := ⟨fun pins s σ H Q I q => h.run pins s σ H Q I (i σ H Q q)⟩
def mNoPart : MO := fun _ S => .ok none S
def intD : D → Option Int | .int i => some i | _ => none
def mPart (m : ME) : MO := fun sd S => (m sd S).bind fun d S1 => match intD d with | some i => .ok (some i) S1 | none => .stk
theorem so_none : SO X W none mNoPart := po_none.impF fun σ H Q ⟨μ, S, sd, hs, hl, h⟩ => h none H μ .refl hs rfl
theorem so_some {e : Expr} {m : ME} (he : SE X W e m) : SO X W (some e) (mPart m) :=
  (po_some he).impF fun σ H Q ⟨μ, S, sd, hs, hl, h⟩ => tE_bind (Rep' := fun _ _ a b => a = b) hs hl h fun d S1 μ1 v H1 hs1 hl1 u1 r1 h1 => by
    cases r1 with
    | int i => exact ⟨i, rfl, h1 (some i) H1 μ1 .refl hs1 rfl⟩
    | _ => exact h1.elim
theorem tO_bind {α δ : Type} {Rep' : Mu → Hp → α → δ → Prop} {m : MO} {f : Option Int → List Cell → Res α} {σ : St} {H : Hp} {μ : Mu} {S : List Cell} {sd : Sl} {Q : δ → Hp → Prop} {Q' : Option Int → Hp → Prop} (hs : StoRep X.mg X.K μ S H) (hl : SlRep X.K μ H sd σ)
    (h : FinA X.mg X.K Rep' (fun c d H' => W c d σ H') μ H ((m sd S).bind f) Q)
    (k : ∀ d S' μ' H', StoRep X.mg X.K μ' S' H' → SlRep X.K μ' H' sd σ → Up μ H μ' H' → FinA X.mg X.K Rep' (fun c d H' => W c d σ H') μ' H' (f d S') Q → Q' d H') : tO X W m σ H Q' := by
  refine ⟨μ, S, sd, hs, hl, ?_⟩
  have h' := FinA.bind (Rep := fun _ _ (a b : Option Int) => a = b) h
  generalize hr : m sd S = r at h h'
  cases r with
  | ok d S' => exact fun v H' μ' u s r => (show d = v from r) ▸ k d S' μ' H' s (hl.up u) u (h' v H' μ' u s r)
  | exc x S' => exact h'
  | stk => exact h'
def cutG {α : Type} (xs : List α) (lo hi : Option Int) : List α := (xs.drop (HT.sIx xs.length 0 lo)).take (HT.sIx xs.length xs.length hi - HT.sIx xs.length 0 lo)
theorem cutG_whole {α : Type} {xs : List α} {lo hi : Option Int} (h : HT.sIx xs.length 0 lo = 0 ∧ HT.sIx xs.length xs.length hi = xs.length) : cutG xs lo hi = xs := by
  unfold cutG
  rw [h.1, h.2]
  simp
def oSl (d : D) (lo hi : Option Int) (S : List Cell) : Res D := match d with
  | .tup xs => .ok (.tup (cutG xs lo hi)) S
  | .str x => if x.length ≤ sizeLine then .ok (.str (cutG x lo hi)) S else .stk
  | .cst xs => .ok (.loc S.length) (S ++ [.lst (cutG xs lo hi)])
  | .loc n => match cellL S n with
    | some xs => .ok (.loc S.length) (S ++ [.lst (cutG xs lo hi)])
    | none => .stk
  | _ => .stk
def mSlice (m : ME) (lo hi : MO) : ME := fun sd S => (m sd S).bind fun d S1 => (lo sd S1).bind fun l S2 => (hi sd S2).bind fun h S3 => oSl d l h S3
theorem se_slice {e : Expr} {lo hi : Option Expr} {m : ME} {ml mh : MO} {p2 pos : Pos} (he : SE X W e m) (hl : SO X W lo ml) (hu : SO X W hi mh) : SE X W (.Subscript e (.Slice lo hi none p2) pos) (mSlice m ml mh) :=
  (pe_slice (sl_list.or (sl_tupA.or sl_str)) he hl hu).impF fun σ H Q ⟨μ, S, sd, hs, hl, h⟩ => tE_bind hs hl h fun d S1 μ1 v H1 hs1 hl1 u1 r1 h1 =>
    tO_bind hs1 hl1 h1 fun l S2 μ2 H2 hs2 hl2 u2 h2 => tO_bind hs2 hl2 h2 fun u S3 μ3 H3 hs3 hl3 u3 h3 => by
      have r3 := (r1.up u2).up u3
      unfold oSl at h3
      split at h3
      · cases r3 with
        | tup ht rl =>
          rename_i a xs vs
          have el := rl.length
          refine .inr (.inl ⟨_, _, rfl, ht, fun hw => ?_, fun hw p hp => ?_⟩)
          · rw [← el] at hw
            rw [cutG_whole hw] at h3
            exact h3 _ H3 μ3 .refl hs3 (.tup ht rl)
          · refine h3 (.ref p) _ μ3 (up_tmp hp) (hs3.tmp hp) (.tup (SqT.of upd_same) ?_)
            unfold cutG cutV
            rw [el]
            exact ((rl.drop _).take _).up (up_tmp hp)
      · split at h3
        · rename_i x hz
          cases r3
          refine .inr (.inr ⟨_, rfl, by show x.toArray.size ≤ _; simpa using hz, ?_⟩)
          have ex : cutS ⟨x.toArray⟩ l u = ⟨(cutG x l u).toArray⟩ := by
            unfold cutS cutG
            have e0 : Str.length ⟨x.toArray⟩ = x.length := by show x.toArray.size = _; simp
            simp only [e0]
          rw [ex]
          exact h3 _ H3 μ3 .refl hs3 (.str _)
        · exact h3.elim
      · cases r3 with
        | cst hq rl =>
          refine .inl ⟨_, _, rfl, hq.sq, fun p hp => ?_⟩
          refine h3 (.ref p) _ (μ3 ++ [p]) (up_new hp) (hs3.alloc hp ⟨_, upd_same, ?_⟩) (.loc (by rw [← hs3.len]; simp))
          unfold cutG cutV
          rw [rl.length]
          exact ((rl.drop _).take _).up (up_new hp)
      · split at h3
        · rename_i n xs ec
          cases r3 with
          | loc en =>
            obtain ⟨vs, hq, rl⟩ := hs3.cellL en ec
            refine .inl ⟨_, vs, rfl, .inl hq, fun p hp => ?_⟩
            refine h3 (.ref p) _ (μ3 ++ [p]) (up_new hp) (hs3.alloc hp ⟨_, upd_same, ?_⟩) (.loc (by rw [← hs3.len]; simp))
            unfold cutG cutV
            rw [rl.length]
            exact ((rl.drop _).take _).up (up_new hp)
        · exact h3.elim
      · exact h3.elim
end

/-! ### + and * of ints, texts, tuples, lists -/
def mlst (S : List Cell) (n : Nat) : Option (List D) := match S[n]? with
  | some (.lst xs) => some xs
  | _ => none
theorem mlst_ok {mg : Str → Option Value} {K : PySem.W.Frag} {μ : Mu} {S : List Cell} {H : Hp} (h : StoRep mg K μ S H) {n : Nat} {a : Addr} {xs : List D} (e : μ[n]? = some a) (hc : mlst S n = some xs) : ∃ vs, H a = some (.lst vs) ∧ RepL K μ H xs vs := by
  unfold mlst at hc
  split at hc
  · rename_i ys es
    cases hc
    exact h.at_ n _ a es e
  · cases hc
section
variable {X : Cx} {W : WX}
def oAdd : O2 := fun d e S => match d, e with
  | .int i, .int j => .ok (.int (i + j)) S
  | .str x, .str y => if x.length + y.length ≤ sizeLine then .ok (.str (x ++ y)) S else .stk
  | .tup x, .tup y => if x.length + y.length ≤ sizeLine then .ok (.tup (x ++ y)) S else .stk
  | .loc n, .loc m => match mlst S n, mlst S m with
    | some x, some y => if x.length + y.length ≤ sizeLine then .ok (.loc S.length) (S ++ [.lst (x ++ y)]) else .stk
    | _, _ => .stk
  | _, _ => .stk
theorem str_app (x y : List Nat) : (⟨x.toArray⟩ : Str) ++ (⟨y.toArray⟩ : Str) = ⟨(x ++ y).toArray⟩ := by
  show (⟨x.toArray ++ y.toArray⟩ : Str) = _
  simp
theorem od_add : OpD X W (binaryOp .Add) oAdd := by
  refine ⟨_, (op_add.or op_add_str).or (op_catA.or op_cat), fun σ H μ S d e x y Q hs rx ry h => ?_⟩
  unfold oAdd at h
  split at h
  · exact .inl (.inl ⟨_, _, rx.inv_int, ry.inv_int, h _ H μ .refl hs (.int _)⟩)
  · split at h
    · rename_i hz
      refine .inl (.inr ⟨_, _, rx.inv_str, ry.inv_str, ?_, ?_⟩)
      · show (List.toArray _).size + (List.toArray _).size ≤ _
        simpa using hz
      · rw [str_app]
        exact h _ H μ .refl hs (.str _)
    · exact h.elim
  · split at h
    · rename_i xs ys hz
      cases rx with
      | tup hx rlx =>
        cases ry with
        | tup hy rly =>
          refine .inr (.inl ⟨_, _, _, _, rfl, rfl, hx, hy, by rw [← rlx.length, ← rly.length]; exact hz, fun e => ?_, fun _ e => ?_, fun _ _ p hp => ?_⟩)
          · subst e
            cases rlx
            exact h _ H μ .refl hs (.tup hy rly)
          · subst e
            cases rly
            rw [List.append_nil] at h
            exact h _ H μ .refl hs (.tup hx rlx)
          · exact h (.ref p) _ μ (up_tmp hp) (hs.tmp hp) (.tup (SqT.of upd_same) ((rlx.append rly).up (up_tmp hp)))
    · exact h.elim
  · split at h
    · rename_i n m xs ys e1 e2
      split at h
      · rename_i hz
        cases rx with
        | loc en =>
          cases ry with
          | loc em =>
            obtain ⟨vs, hv, rlx⟩ := mlst_ok hs en e1
            obtain ⟨ws, hw, rly⟩ := mlst_ok hs em e2
            refine .inr (.inr ⟨_, _, vs, ws, rfl, rfl, hv, hw, by rw [← rlx.length, ← rly.length]; exact hz, fun p hp => ?_⟩)
            exact h (.ref p) _ (μ ++ [p]) (up_new hp) (hs.alloc hp ⟨_, upd_same, (rlx.append rly).up (up_new hp)⟩) (.loc (by rw [← hs.len]; simp))
      · exact h.elim
    · exact h.elim
  · exact h.elim
/-- list * int -/
def oMulL : O2 := fun d e S => match d, e with
  | .int i, .int j => if cMul i j then .ok (.int (i * j)) S else .stk
  | .loc n, .int k => match mlst S n with
    | some x => if -(2 ^ 63) ≤ k ∧ k < 2 ^ 63 ∧ x.length * k.toNat ≤ sizeLine then .ok (.loc S.length) (S ++ [.lst (List.replicate k.toNat x).flatten]) else .stk
    | _ => .stk
  | _, _ => .stk
theorem rep_flat {K : PySem.W.Frag} {μ : Mu} {H : Hp} {ds : List D} {vs : List V} (r : RepL K μ H ds vs) : ∀ k, RepL K μ H (List.replicate k ds).flatten (List.replicate k vs).flatten
  | 0 => .nil
  | k + 1 => by
    rw [List.replicate_succ, List.replicate_succ, List.flatten_cons, List.flatten_cons]
    exact r.append (rep_flat r k)
theorem od_mulL : OpD X W (binaryOp .Mult) oMulL := by
  refine ⟨_, op_mul.or op_rep, fun σ H μ S d e x y Q hs rx ry h => ?_⟩
  unfold oMulL at h
  split at h
  · split at h
    · rename_i hc
      exact .inl ⟨_, _, rx.inv_int, ry.inv_int, cMul_ok hc, h _ H μ .refl hs (.int _)⟩
    · exact h.elim
  · split at h
    · split at h
      · rename_i k _ xs e1 hz
        cases rx with
        | loc en =>
          obtain ⟨vs, hv, rl⟩ := mlst_ok hs en e1
          refine .inr ⟨_, k, vs, rfl, ry.inv_int, hv, hz.1, hz.2.1, by rw [← rl.length]; exact hz.2.2, fun p hp => ?_⟩
          exact h (.ref p) _ (μ ++ [p]) (up_new hp) (hs.alloc hp ⟨_, upd_same, (rep_flat rl _).up (up_new hp)⟩) (.loc (by rw [← hs.len]; simp))
      · exact h.elim
    · exact h.elim
  · exact h.elim

/-! ### equality, to any depth -/
def pyD : Nat → List Cell → D → Option PyData
  | _, _, .non => some .none
  | _, _, .bl b => some (.bool b)
  | _, _, .int i => some (.int i)
  | _, _, .str x => if x.all (· < 0x110000) then some (.str ⟨x.toArray⟩) else none
  | n + 1, S, .tup l => (l.mapM (pyD n S)).map .tuple
  | n + 1, S, .cst l => (l.mapM (pyD n S)).map .list
  | n + 1, S, .loc k => (cellL S k).bind fun xs => (xs.mapM (pyD n S)).map .list
  | _, _, _ => none
end
end Fx

namespace Fx
open PySem PySem.Spec PyProof.Rows L2

/-! ### equality -/
section
variable {mg : Str → Option Value} {K : PySem.W.Frag} {μ : Mu} {S : List Cell} {H : Hp}
theorem pyL_ok {n : Nat} (ih : ∀ {d : D} {v : V} {p : PyData}, RepV K μ H d v → pyD n S d = some p → Dp K H v p ∧ p.canLay0 = true ∧ p.depth ≤ n) : ∀ {ds : List D} {vs : List V} {ps : List PyData}, RepL K μ H ds vs → ds.mapM (pyD n S) = some ps →
    DpAll K H vs ps ∧ PyData.canLayAll0 ps = true ∧ PyData.depthAll ps ≤ n
  | _, _, _, .nil, h => by
    cases h
    exact ⟨.nil, rfl, Nat.zero_le _⟩
  | d :: ds, v :: vs, ps, .cons h r, e => by
    rw [List.mapM_cons] at e
    cases e1 : pyD n S d with
    | none => rw [e1] at e; cases e
    | some p =>
      rw [e1] at e
      cases e2 : ds.mapM (pyD n S) with
      | none => rw [e2] at e; cases e
      | some qs =>
        rw [e2] at e
        cases e
        obtain ⟨a1, a2, a3⟩ := ih h e1
        obtain ⟨b1, b2, b3⟩ := pyL_ok @ih r e2
        refine ⟨.cons a1 b1, ?_, ?_⟩
        · show (PyData.canLay0 p && PyData.canLayAll0 qs) = true
          rw [a2, b2]; rfl
        · show max (PyData.depth p) (PyData.depthAll qs) ≤ n
          omega
theorem pyD_ok (hs : StoRep mg K μ S H) : ∀ (n : Nat) {d : D} {v : V} {p : PyData}, RepV K μ H d v → pyD n S d = some p → Dp K H v p ∧ p.canLay0 = true ∧ p.depth ≤ n := by
  intro n
  induction n with
  | zero =>
    intro d v p r e
    cases r with
    | non => cases e; exact ⟨.non, rfl, Nat.zero_le _⟩
    | bl b => cases e; exact ⟨.bl b, rfl, Nat.zero_le _⟩
    | int b => cases e; exact ⟨.int b, rfl, Nat.zero_le _⟩
    | str x =>
      have e : (if x.all (· < 0x110000) then some (PyData.str ⟨x.toArray⟩) else none) = some p := e
      split at e
      · rename_i hx
        cases e
        exact ⟨.str _, by show PyData.strOk _ = true; unfold PyData.strOk; simpa using hx, Nat.zero_le _⟩
      · cases e
    | tup _ _ => cases e
    | cst _ _ => cases e
    | loc _ => cases e
    | adr _ => cases e
    | lam _ => cases e
  | succ n ih =>
    intro d v p r e
    cases r with
    | non => cases e; exact ⟨.non, rfl, Nat.zero_le _⟩
    | bl b => cases e; exact ⟨.bl b, rfl, Nat.zero_le _⟩
    | int b => cases e; exact ⟨.int b, rfl, Nat.zero_le _⟩
    | str x =>
      have e : (if x.all (· < 0x110000) then some (PyData.str ⟨x.toArray⟩) else none) = some p := e
      split at e
      · rename_i hx
        cases e
        exact ⟨.str _, by show PyData.strOk _ = true; unfold PyData.strOk; simpa using hx, Nat.zero_le _⟩
      · cases e
    | tup ht rl =>
      obtain ⟨ps, e1, rfl⟩ := Option.map_eq_some_iff.mp (show Option.map PyData.tuple (List.mapM (pyD n S) _) = some p from e)
      obtain ⟨a, b, c⟩ := pyL_ok (fun r e => ih r e) rl e1
      exact ⟨.tup ht a, b, Nat.succ_le_succ c⟩
    | cst ht rl =>
      obtain ⟨ps, e1, rfl⟩ := Option.map_eq_some_iff.mp (show Option.map PyData.list (List.mapM (pyD n S) _) = some p from e)
      obtain ⟨a, b, c⟩ := pyL_ok (fun r e => ih r e) rl e1
      exact ⟨.lst ht.sq a, b, Nat.succ_le_succ c⟩
    | loc en =>
      obtain ⟨xs, e0, e⟩ := Option.bind_eq_some_iff.mp (show Option.bind (cellL S _) (fun xs => (xs.mapM (pyD n S)).map PyData.list) = some p from e)
      obtain ⟨ps, e1, rfl⟩ := Option.map_eq_some_iff.mp e
      obtain ⟨vs, h1, rl⟩ := hs.cellL en e0
      obtain ⟨a, b, c⟩ := pyL_ok (fun r e => ih r e) rl e1
      exact ⟨.lst (.inl h1) a, b, Nat.succ_le_succ c⟩
    | adr _ => cases e
    | lam _ => cases e
end
def eqD (S : List Cell) (d e : D) : Option Bool := (pyD 60 S d).bind fun p => (pyD 60 S e).map fun q => PyData.eqv p q
def oEq : O2 := fun d e S => match eqD S d e with | some b => .ok (.bl b) S | none => .stk
def oNe : O2 := fun d e S => match eqD S d e with | some b => .ok (.bl (!b)) S | none => .stk
section
variable {X : Cx} {W : WX}
theorem eqD_ok {μ : Mu} {S : List Cell} {H : Hp} {d e : D} {x y : V} {b : Bool} (hs : StoRep X.mg X.K μ S H) (rx : RepV X.K μ H d x) (ry : RepV X.K μ H e y) (h : eqD S d e = some b) :
    ∃ p q, Dp X.K H x p ∧ Dp X.K H y q ∧ SeqAt.shaped p = true ∧ SeqAt.shaped q = true ∧ b = PyData.eqv p q := by
  obtain ⟨p, e1, e2⟩ := Option.bind_eq_some_iff.mp h
  obtain ⟨q, e3, e4⟩ := Option.map_eq_some_iff.mp e2
  obtain ⟨a1, a2, a3⟩ := pyD_ok hs 60 rx e1
  obtain ⟨b1, b2, b3⟩ := pyD_ok hs 60 ry e3
  exact ⟨p, q, a1, b1, Bool.and_eq_true_iff.mpr ⟨a2, decide_eq_true (by omega)⟩, Bool.and_eq_true_iff.mpr ⟨b2, decide_eq_true (by omega)⟩, e4.symm⟩
theorem od_eq (hu : X.A.units + 64 < cLine) : OpD X W (compareOp .Eq) oEq := by
  refine ⟨_, op_eqD hu, fun σ H μ S d e x y Q hs rx ry h => ?_⟩
  unfold oEq at h
  split at h
  · rename_i b eb
    obtain ⟨p, q, h1, h2, h3, h4, rfl⟩ := eqD_ok hs rx ry eb
    exact ⟨p, q, h1, h2, h3, h4, h _ H μ .refl hs (.bl _)⟩
  · exact h.elim
theorem od_ne (hu : X.A.units + 64 < cLine) : OpD X W (compareOp .NotEq) oNe := by
  refine ⟨_, op_neD hu, fun σ H μ S d e x y Q hs rx ry h => ?_⟩
  unfold oNe at h
  split at h
  · rename_i b eb
    obtain ⟨p, q, h1, h2, h3, h4, rfl⟩ := eqD_ok hs rx ry eb
    exact ⟨p, q, h1, h2, h3, h4, h _ H μ .refl hs (.bl _)⟩
  · exact h.elim

/-! ### in, not in: flat items of a list or tuple; a sign or text in a text -/
def flatD : D → Bool | .non => true | .bl _ => true | .int _ => true | .str _ => true | _ => false
def eqF : D → D → Bool
  | .non, .non => true
  | .bl a, .bl b => a == b
  | .bl a, .int b => (if a then 1 else 0) == b
  | .int a, .bl b => a == (if b then 1 else 0)
  | .int a, .int b => a == b
  | .str a, .str b => a == b
  | _, _ => false
theorem flatD_ok {K : PySem.W.Frag} {μ : Mu} {H : Hp} {d : D} {x : V} (r : RepV K μ H d x) : flatV x = flatD d := by cases r <;> rfl
theorem str_beq (x y : List Nat) : ((⟨x.toArray⟩ : Str) == (⟨y.toArray⟩ : Str)) = (x == y) := by
  rw [Bool.eq_iff_iff]; simp
theorem eqF_ok {K : PySem.W.Frag} {μ : Mu} {H : Hp} {d e : D} {x y : V} (r : RepV K μ H d x) (r' : RepV K μ H e y) : eqV x y = eqF d e := by
  cases r <;> cases r' <;> first | rfl | exact str_beq _ _
theorem flatL_ok {K : PySem.W.Frag} {μ : Mu} {H : Hp} : ∀ {ds : List D} {vs : List V}, RepL K μ H ds vs → vs.all flatV = ds.all flatD
  | _, _, .nil => rfl
  | _, _, .cons h r => by rw [List.all_cons, List.all_cons, flatD_ok h, flatL_ok r]
theorem anyF_ok {K : PySem.W.Frag} {μ : Mu} {H : Hp} {d : D} {x : V} (rx : RepV K μ H d x) : ∀ {ds : List D} {vs : List V}, RepL K μ H ds vs → inV x vs = ds.any fun e => eqF e d
  | _, _, .nil => rfl
  | _, _, .cons h r => by
    have ih := anyF_ok rx r
    unfold inV at ih ⊢
    rw [List.any_cons, List.any_cons, eqF_ok h rx, ih]
def inD (S : List Cell) (d e : D) : Option Bool := match d, e with
  | .str [c], .str z => some (decide (c ∈ z))
  | d, e => (seqD S e).bind fun xs => if flatD d && xs.all flatD then some (xs.any fun y => eqF y d) else none
def oIn : O2 := fun d e S => match inD S d e with | some b => .ok (.bl b) S | none => .stk
def oNotIn : O2 := fun d e S => match inD S d e with | some b => .ok (.bl (!b)) S | none => .stk
theorem od_in : OpD X W (compareOp .In) oIn := by
  refine ⟨_, op_in_seq.or op_in_sign, fun σ H μ S d e x y Q hs rx ry h => ?_⟩
  unfold oIn at h
  split at h
  · rename_i b eb
    unfold inD at eb
    split at eb
    · cases eb
      exact .inr ⟨_, _, rx.inv_str, ry.inv_str, by simpa using h _ H μ .refl hs (.bl _)⟩
    · obtain ⟨xs, e1, e2⟩ := Option.bind_eq_some_iff.mp eb
      split at e2
      · rename_i hf
        cases e2
        simp only [Bool.and_eq_true] at hf
        obtain ⟨p, vs, rfl, hq, rl⟩ := hs.seqD ry e1
        refine .inl ⟨p, vs, rfl, hq, by rw [flatD_ok rx]; exact hf.1, by rw [flatL_ok rl]; exact hf.2, ?_⟩
        rw [anyF_ok rx rl]
        exact h _ H μ .refl hs (.bl _)
      · cases e2
  · exact h.elim
theorem od_notIn : OpD X W (compareOp .NotIn) oNotIn := by
  refine ⟨_, op_notIn_seq.or op_notIn_sign, fun σ H μ S d e x y Q hs rx ry h => ?_⟩
  unfold oNotIn at h
  split at h
  · rename_i b eb
    unfold inD at eb
    split at eb
    · cases eb
      exact .inr ⟨_, _, rx.inv_str, ry.inv_str, by simpa using h _ H μ .refl hs (.bl _)⟩
    · obtain ⟨xs, e1, e2⟩ := Option.bind_eq_some_iff.mp eb
      split at e2
      · rename_i hf
        cases e2
        simp only [Bool.and_eq_true] at hf
        obtain ⟨p, vs, rfl, hq, rl⟩ := hs.seqD ry e1
        refine .inl ⟨p, vs, rfl, hq, by rw [flatD_ok rx]; exact hf.1, by rw [flatL_ok rl]; exact hf.2, ?_⟩
        rw [anyF_ok rx rl]
        exact h _ H μ .refl hs (.bl _)
      · cases e2
  · exact h.elim

/-! ### lists changed: append, item stored -/
def mAppend (o a : ME) : ME := fun sd S => (o sd S).bind fun d S1 => match d with
  | .loc n => match mlst S1 n with
    | none => .stk
    | some _ => (a sd S1).bind fun e S2 => match mlst S2 n with
      | some xs => if xs.length < sizeLine then .ok .non (S2.set n (.lst (xs ++ [e]))) else .stk
      | none => .stk
  | _ => .stk
theorem se_append {o a : Expr} {mo ma : ME} {apos cpos : Pos} (ho : SE X W o mo) (ha : SE X W a ma)
    (hbase : attributeBase o "append" X.env (eval o X.env) = eval o X.env := by rfl)
    (hfew : ((backTo cpos (starEach [a] X.env)).all (fun x => !x.1) && (backToKw cpos (keywordEach [] X.env)).all (fun x => x.1.isSome)
      && decide (([a] : List Expr).length + ([] : List Keyword).length + (if ([] : List Keyword).isEmpty then 0 else 1) < 30)) = true := by rfl)
    (hline : (apos.endLine == cpos.line) = true := by rfl) (hst : starEach [a] X.env = (false, eval a X.env) :: starEach [] X.env := by rfl) (hplain : (backTo cpos (starEach [] X.env)).any (·.1) = false := by rfl) :
    SE X W (.Call (.Attribute o "append" apos) [a] [] cpos) (mAppend mo ma) :=
  (pe_bm PySem.F.plainAttrs_list PySem.F.slot_list_append PySem.F.type_list_append mt_append ho (pa_cons ha pa_nil hst) hbase hfew hline hst hplain).impF fun σ H Q ⟨μ, S, sd, hs, hl, h⟩ => tE_bind hs hl h fun d S1 μ1 v H1 hs1 hl1 u1 r1 h1 => by
    cases r1 with
    | loc en =>
      simp only at h1
      split at h1
      · exact h1.elim
      · rename_i n a xs0 e0
        obtain ⟨vs0, hv0, _⟩ := mlst_ok hs1 en e0
        refine ⟨.inl ⟨rfl, vs0, SqL.of hv0⟩, tE_bind hs1 hl1 h1 fun e S2 μ2 w H2 hs2 hl2 u2 r2 h2 => ?_⟩
        split at h2
        · split at h2
          · rename_i xs e1 hz
            have en2 := u2.mu _ _ en
            obtain ⟨vs, hv, rl⟩ := mlst_ok hs2 en2 e1
            refine ⟨_, vs, w, rfl, rfl, hv, by rw [← rl.length]; exact hz, ?_⟩
            exact h2 .non _ μ2 (up_put (List.mem_of_getElem? en2) hv) (hs2.put en2 hv (rl.snoc r2)) .non
          · exact h2.elim
        · exact h2.elim
    | _ => exact h1.elim
theorem tE_bindG {m : ME} {f : D → List Cell → Res Sl} {σ : St} {H : Hp} {μ : Mu} {S : List Cell} {sd : Sl} {Q : St → Hp → Prop} {Q' : VK} (hs : StoRep X.mg X.K μ S H) (hl : SlRep X.K μ H sd σ)
    (h : FinA X.mg X.K (fun μ H => SlRep X.K μ H) (fun c d H' => W c d σ H') μ H ((m sd S).bind f) Q)
    (k : ∀ d S' μ' v H', StoRep X.mg X.K μ' S' H' → SlRep X.K μ' H' sd σ → Up μ H μ' H' → RepV X.K μ' H' d v → FinA X.mg X.K (fun μ H => SlRep X.K μ H) (fun c d H' => W c d σ H') μ' H' (f d S') Q → Q' v H') : tE X W m σ H Q' := tE_bind hs hl h k
/-- o[i] = v of a list -/
def gSubL (o i : ME) : MG := fun v sd S => (o sd S).bind fun d S1 => (i sd S1).bind fun e S2 => match d, e with
  | .loc n, .int k => match mlst S2 n with
    | some xs => match ixN xs.length k with
      | some j => .ok sd (S2.set n (.lst (xs.set j v)))
      | none => .stk
    | none => .stk
  | _, _ => .stk
theorem sg_sub {o i : Expr} {mo mi : ME} {pos : Pos} (ho : SE X W o mo) (hi : SE X W i mi)
    (ha : ∀ v, assign (.Subscript o i pos) X.env v = (do
      let ov ← holding [v] (eval o X.env)
      let iv ← holding [v, ov] (eval i X.env)
      standAt pos
      holding [v, ov, iv] (setItem ov iv v)
      release [v, ov, iv] []) := by intro _; rfl) : SG X W (.Subscript o i pos) (gSubL mo mi) :=
  (pg_sub ho hi set_list ha).impF fun v σ H Q ⟨μ, S, sd, d, hs, hl, r, h⟩ => tE_bindG hs hl h fun d1 S1 μ1 v1 H1 hs1 hl1 u1 r1 h1 => tE_bindG hs1 hl1 h1 fun d2 S2 μ2 v2 H2 hs2 hl2 u2 r2 h2 => by
    split at h2
    · rename_i n k
      split at h2
      · rename_i xs e1
        split at h2
        · rename_i j ej
          cases r1 with
          | loc en =>
            have en2 := u2.mu _ _ en
            obtain ⟨vs, hv, rl⟩ := mlst_ok hs2 en2 e1
            refine ⟨_, vs, k, j, rfl, r2.inv_int, hv, by rw [← rl.length]; exact ej, ?_⟩
            have up := up_put (μ := μ2) (o := .lst (vs.set j v)) (List.mem_of_getElem? en2) hv
            exact h2 σ _ μ2 up (hs2.put en2 hv (rl.set (((r.up u1).up u2)) j)) (hl2.up up)
        · exact h2.elim
      · exact h2.elim
    · exact h2.elim

/-! ### targets of several names -/
def gsNil : MGs := fun ds sd S => match ds with | [] => .ok sd S | _ => .stk
def gsCons (g : MG) (r : MGs) : MGs := fun ds sd S => match ds with | d :: rest => (g d sd S).bind fun sd1 S1 => r rest sd1 S1 | _ => .stk
abbrev SGs (X : Cx) (W : WX) (tgs : List Expr) (g : MGs) : Prop := PGs X tgs (tGs X W g)
theorem _root_.L2.PGs.impF {X : Cx} {e : List Expr} {t t' : TGs} (h : PGs X e t) (i : ∀ v σ H Q, t' v σ H Q → t v σ H Q) : PGs X e t' := ⟨fun pins s σ H v u Q I r q => h.run pins s σ H v u Q I r (i v σ H Q q)⟩
theorem sgs_nil : SGs X W [] gsNil := pgs_nil.impF fun vs σ H Q ⟨μ, S, sd, ds, hs, hl, r, h⟩ => by
  cases r with
  | nil => exact ⟨rfl, h σ H μ .refl hs hl⟩
  | cons _ _ => exact h.elim
/-- a target that raises nothing -/
def NoEx (g : MG) : Prop := ∀ d sd S x S', g d sd S ≠ .exc x S'
theorem sgs_cons {e : Expr} {es : List Expr} {g : MG} {r : MGs} (h1 : SG X W e g) (h2 : SGs X W es r) (nx : ∀ d sd S x S', g d sd S ≠ .exc x S') (nr : ∀ d sd S x S', r d sd S ≠ .exc x S')
    (hst : (assignEach (e :: es) X.env).map (·.2) = assign e X.env :: (assignEach es X.env).map (·.2) := by rfl) : SGs X W (e :: es) (gsCons g r) :=
  (pgs_cons h1 h2 hst).impF fun vs σ H Q ⟨μ, S, sd, ds, hs, hl, rp, h⟩ => by
    cases rp with
    | nil => exact h.elim
    | @cons d v ds vs rd rr =>
      refine ⟨v, vs, rfl, μ, S, sd, d, hs, hl, rd, ?_⟩
      have h : FinA X.mg X.K (fun μ H => SlRep X.K μ H) (fun c d H' => W c d σ H') μ H ((g d sd S).bind fun sd1 S1 => r ds sd1 S1) Q := h
      generalize hr : g d sd S = res at h
      cases res with
      | ok sd1 S1 =>
        intro σ' H' μ' u s l
        refine ⟨μ', S1, sd1, ds, s, l, rr.up u, ?_⟩
        have h' : FinA X.mg X.K (fun μ H => SlRep X.K μ H) (fun c d H' => W c d σ H') μ' H' (r ds sd1 S1) Q := FinA.up u h
        generalize hr2 : r ds sd1 S1 = res2 at h'
        cases res2 with
        | ok sd2 S2 => exact h'
        | exc x S2 => exact absurd hr2 (nr _ _ _ _ _)
        | stk => exact h'
      | exc x S1 => exact absurd hr (nx _ _ _ _ _)
      | stk => exact h
def gTupD (n : Nat) (g : MGs) : MG := fun d sd S => match d with | .tup ds => if ds.length = n then g ds sd S else .stk | _ => .stk
theorem sg_tup {es : List Expr} {k : Nat} {g : MGs} {n : Nat} {pos : Pos} (hc : X.calm = true) (h : SGs X W es g) (hn : (assignEach es X.env).length = n := by rfl) (hst : (assignEach es X.env).findIdx? (·.1) = none := by rfl) : SG X W (.Tuple es k pos) (gTupD n g) :=
  (pg_tup hc h hn hst).impF fun v σ H Q ⟨μ, S, sd, d, hs, hl, r, h⟩ => by
    unfold gTupD at h
    split at h
    · split at h
      · rename_i ds hz
        cases r with
        | tup ht rl => exact ⟨_, _, rfl, ht, by rw [← rl.length]; exact hz, μ, S, sd, ds, hs, hl, rl, h⟩
      · exact h.elim
    · exact h.elim
theorem gN_noex (i : Nat) : ∀ d sd S x S', gN i d sd S ≠ .exc x S' := fun _ _ _ _ _ h => by cases h
theorem gsNil_noex : ∀ d sd S x S', gsNil d sd S ≠ .exc x S' := fun d _ _ _ _ h => by cases d <;> cases h
theorem gsCons_noex {g : MG} {r : MGs} (h1 : ∀ d sd S x S', g d sd S ≠ .exc x S') (h2 : ∀ d sd S x S', r d sd S ≠ .exc x S') : ∀ d sd S x S', gsCons g r d sd S ≠ .exc x S' := fun d sd S x S' h => by
  cases d with
  | nil => cases h
  | cons d ds =>
    have h : ((g d sd S).bind fun sd1 S1 => r ds sd1 S1) = .exc x S' := h
    generalize hr : g d sd S = res at h
    cases res with
    | ok sd1 S1 => exact h2 _ _ _ _ _ h
    | exc y S1 => exact h1 _ _ _ _ _ hr
    | stk => cases h
theorem gTupD_noex {n : Nat} {g : MGs} (h1 : ∀ d sd S x S', g d sd S ≠ .exc x S') : ∀ d sd S x S', gTupD n g d sd S ≠ .exc x S' := fun d sd S x S' h => by
  unfold gTupD at h
  split at h
  · split at h
    · exact h1 _ _ _ _ _ h
    · cases h
  · cases h
/-- a, b = x, y of plain local names -/
def mPar (i j : Nat) (a : MA) : MS := fun sd S => match a sd S with
  | .ok [d, e] S1 => .nx ((sd.set i (some d)).set j (some e)) S1
  | .exc x S1 => .exc x sd S1
  | _ => .stk
theorem ss_par (i j : Nat) {x y : Str} {a b : Expr} {ma : MA} {px py pt pos : Pos} {kt k2 pt2} (hc : X.calm = true) (hN : X.N.Nodup) (ha : SA X W [a, b] ma) (hij : i ≠ j := by decide) (hi : X.N[i]? = some x := by rfl) (hj : X.N[j]? = some y := by rfl)
    (hx : X.env.scope.names.lookup x = some .local := by rfl) (hy : X.env.scope.names.lookup y = some .local := by rfl) (hw : swappedStores [.Tuple [.Name x px, .Name y py] kt pt] (.Tuple [a, b] k2 pt2) X.env = pure (some [x, y]) := by rfl)
    (hs : swapsWithSole [.Tuple [.Name x px, .Name y py] kt pt] (.Tuple [a, b] k2 pt2) pos.line X.env = pure false := by rfl) : SS X W (.Assign [.Tuple [.Name x px, .Name y py] kt pt] (.Tuple [a, b] k2 pt2) pos) (mPar i j ma) :=
  (ps_par hc hN hi hj hij hx hy ha hw hs).impF fun D σ H ⟨μ, S, sd, hs, hl, h⟩ => by
    refine ⟨μ, S, sd, hs, hl, ?_⟩
    unfold mPar at h
    split at h
    · rename_i d e S1 er
      rw [er]
      intro vs H1 μ1 u1 s1 r1
      obtain ⟨v, w, rfl, r2, r3⟩ := r1.two
      exact ⟨v, w, rfl, h _ H1 μ1 u1 s1 (((hl.up u1).set r2).set r3)⟩
    · rename_i x S1 er
      rw [er]
      exact fun c dx H' μ' u s e => h c dx σ H' μ' u s (hl.up u) e
    · exact h.elim
def mPar3 (i j l : Nat) (a : MA) : MS := fun sd S => match a sd S with
  | .ok [d, e, f] S1 => .nx (((sd.set i (some d)).set j (some e)).set l (some f)) S1
  | .exc x S1 => .exc x sd S1
  | _ => .stk
theorem RepL.three {K : PySem.W.Frag} {μ : Mu} {H : Hp} {d e f : D} {vs : List V} (h : RepL K μ H [d, e, f] vs) : ∃ x y z, vs = [x, y, z] ∧ RepV K μ H d x ∧ RepV K μ H e y ∧ RepV K μ H f z := by
  cases h with
  | cons h r =>
    obtain ⟨y, z, rfl, h2, h3⟩ := RepL.two r
    exact ⟨_, y, z, rfl, h, h2, h3⟩
theorem ss_par3 (i j l : Nat) {x y z : Str} {a b c : Expr} {ma : MA} {px py pz pt pos : Pos} {kt k2 pt2} (hc : X.calm = true) (hN : X.N.Nodup) (ha : SA X W [a, b, c] ma) (hij : i ≠ j := by decide) (hil : i ≠ l := by decide) (hjl : j ≠ l := by decide) (hi : X.N[i]? = some x := by rfl) (hj : X.N[j]? = some y := by rfl) (hl : X.N[l]? = some z := by rfl)
    (hx : X.env.scope.names.lookup x = some .local := by rfl) (hy : X.env.scope.names.lookup y = some .local := by rfl) (hz : X.env.scope.names.lookup z = some .local := by rfl) (hw : swappedStores [.Tuple [.Name x px, .Name y py, .Name z pz] kt pt] (.Tuple [a, b, c] k2 pt2) X.env = pure (some [x, y, z]) := by rfl)
    (hs : swapsWithSole [.Tuple [.Name x px, .Name y py, .Name z pz] kt pt] (.Tuple [a, b, c] k2 pt2) pos.line X.env = pure false := by rfl) : SS X W (.Assign [.Tuple [.Name x px, .Name y py, .Name z pz] kt pt] (.Tuple [a, b, c] k2 pt2) pos) (mPar3 i j l ma) :=
  (ps_par3 hc hN hi hj hl hij hil hjl hx hy hz ha hw hs).impF fun D σ H ⟨μ, S, sd, hs, hl, h⟩ => by
    refine ⟨μ, S, sd, hs, hl, ?_⟩
    unfold mPar3 at h
    split at h
    · rename_i d e f S1 er
      rw [er]
      intro vs H1 μ1 u1 s1 r1
      obtain ⟨v, w, z, rfl, r2, r3, r4⟩ := r1.three
      exact ⟨v, w, z, rfl, h _ H1 μ1 u1 s1 ((((hl.up u1).set r2).set r3).set r4)⟩
    · rename_i x S1 er
      rw [er]
      exact fun c dx H' μ' u s e => h c dx σ H' μ' u s (hl.up u) e
    · exact h.elim
end
end Fx

namespace Fx
open PySem PySem.Spec PyProof.Rows L2

/-! ### what is walked -/
structure ItD where
  xs : List D
  g : Option Nat
def ItD.okAt (it : ItD) (S : List Cell) : Prop := match it.g with | none => True | some n => cellL S n = some it.xs
def RepI (mg : Str → Option Value) (K : PySem.W.Frag) (μ : Mu) (H : Hp) (it : ItD) (J : It) : Prop :=
  ∀ μ2 H2 S2, Up μ H μ2 H2 → StoRep mg K μ2 S2 H2 → it.okAt S2 → ∀ i,
    (∀ d, it.xs[i]? = some d → J.go i H2 ∧ ∀ x H3, J.yld i H2 x H3 → Up μ2 H2 μ2 H3 ∧ StoRep mg K μ2 S2 H3 ∧ RepV K μ2 H3 d x) ∧ (it.xs.length ≤ i → J.stop i H2)
abbrev MI := Sl → List Cell → Res ItD
def tI (X : Cx) (W : WX) (m : MI) : TI := fun σ H Q => ∃ μ S sd, StoRep X.mg X.K μ S H ∧ SlRep X.K μ H sd σ ∧ FinA X.mg X.K (RepI X.mg X.K) (fun c d H' => W c d σ H') μ H (m sd S) Q
abbrev SI (X : Cx) (W : WX) (tg iter : Expr) (m : MI) : Prop := PI X tg iter (tI X W m)
theorem _root_.L2.PI.impF {X : Cx} {tg e : Expr} {t t' : TI} (h : PI X tg e t) (i : ∀ σ H Q, t' σ H Q → t σ H Q) : PI X tg e t' := ⟨fun pins s σ H Q I q => h.run pins s σ H Q I (i σ H Q q)⟩
theorem _root_.L2.PI.orF {X : Cx} {tg e : Expr} {t t' : TI} (h : PI X tg e t) (h' : PI X tg e t') : PI X tg e (fun σ H R => t σ H R ∨ t' σ H R) := ⟨fun pins s σ H Q I q => q.elim (h.run pins s σ H Q I) (h'.run pins s σ H Q I)⟩
section
variable {X : Cx} {W : WX} {mg : Str → Option Value} {K : PySem.W.Frag} {μ : Mu} {S : List Cell} {H : Hp}
theorem repI_tup {a : Addr} {ds : List D} {vs : List V} (ht : SqT K H a vs) (rl : RepL K μ H ds vs) : RepI mg K μ H ⟨ds, none⟩ (Itt K a) := by
  intro μ2 H2 S2 u s ok i
  have ht2 := u.sqT ht
  refine ⟨fun d e => ?_, fun hi => ⟨vs, ht2, by rw [← rl.length]; exact hi⟩⟩
  obtain ⟨v, e1, r⟩ := (rl.up u).getD e
  refine ⟨⟨vs, v, ht2, e1⟩, fun x H3 y => ?_⟩
  obtain ⟨rfl, y⟩ := y
  have := y vs ht2
  rw [e1] at this
  cases this
  exact ⟨.refl, s, r⟩
theorem repI_lst {a : Addr} {n : Nat} {ds : List D} (en : μ[n]? = some a) : RepI mg K μ H ⟨ds, some n⟩ (Itl K a) := by
  intro μ2 H2 S2 u s ok i
  obtain ⟨vs, hq, rl⟩ := s.cellL (u.mu _ _ en) (show cellL S2 n = some ds from ok)
  have hq2 : SqL K H2 a vs := .inl hq
  refine ⟨fun d e => ?_, fun hi => ⟨vs, hq2, by rw [← rl.length]; exact hi⟩⟩
  obtain ⟨v, e1, r⟩ := rl.getD e
  refine ⟨⟨vs, v, hq2, e1⟩, fun x H3 y => ?_⟩
  obtain ⟨rfl, y⟩ := y
  have := y vs hq2
  rw [e1] at this
  cases this
  exact ⟨.refl, s, r⟩
theorem repI_cst {a : Addr} {ds : List D} {vs : List V} (ht : SqF K H a vs) (rl : RepL K μ H ds vs) : RepI mg K μ H ⟨ds, none⟩ (Itl K a) := by
  intro μ2 H2 S2 u s ok i
  have ht2 := (u.toUpR.sqF ht).sq
  refine ⟨fun d e => ?_, fun hi => ⟨vs, ht2, by rw [← rl.length]; exact hi⟩⟩
  obtain ⟨v, e1, r⟩ := (rl.up u).getD e
  refine ⟨⟨vs, v, ht2, e1⟩, fun x H3 y => ?_⟩
  obtain ⟨rfl, y⟩ := y
  have := y vs ht2
  rw [e1] at this
  cases this
  exact ⟨.refl, s, r⟩
def rngD (lo : Int) (n : Nat) : List D := (List.range n).map fun k => .int (lo + (k : Nat))
theorem repI_rng {lo : Int} {n : Nat} : RepI mg K μ H ⟨rngD lo n, none⟩ (Itr lo n) := by
  intro μ2 H2 S2 u s ok i
  refine ⟨fun d e => ?_, fun hi => show n ≤ i by simpa [rngD] using hi⟩
  have e' : (rngD lo n)[i]? = some d := e
  have hi : i < n := by
    have := (List.getElem?_eq_some_iff.mp e').1
    simpa [rngD] using this
  have ed : d = .int (lo + (i : Nat)) := by
    simp [rngD, hi] at e'
    exact e'.symm
  refine ⟨hi, fun x H3 y => ?_⟩
  obtain ⟨rfl, rfl⟩ := y
  subst ed
  exact ⟨.refl, s, .int _⟩
theorem repI_str {x : List Nat} : RepI mg K μ H ⟨x.map fun c => .str [c], none⟩ (Its ⟨x.toArray⟩) := by
  intro μ2 H2 S2 u s ok i
  refine ⟨fun d e => ?_, fun hi => by show x.toArray.size ≤ i; simpa using hi⟩
  have e : (x.map fun c => D.str [c])[i]? = some d := e
  rw [List.getElem?_map] at e
  obtain ⟨c, e1, e2⟩ := Option.map_eq_some_iff.mp e
  subst e2
  refine ⟨by show i < x.toArray.size; simpa using (List.getElem?_eq_some_iff.mp e1).1, fun v H3 y => ?_⟩
  obtain ⟨eH, c2, h2, h3⟩ := y
  subst eH h3
  have h2 : x.toArray[i]? = some c2 := h2
  have : x[i]? = some c2 := by simpa using h2
  rw [e1] at this
  cases this
  exact ⟨.refl, s, .str [c]⟩
def mSeqI (m : ME) : MI := fun sd S => (m sd S).bind fun d S1 => match d with
  | .tup xs => .ok ⟨xs, none⟩ S1
  | .cst xs => .ok ⟨xs, none⟩ S1
  | .loc n => match cellL S1 n with
    | some xs => .ok ⟨xs, some n⟩ S1
    | none => .stk
  | .str x => .ok ⟨x.map fun c => .str [c], none⟩ S1
  | _ => .stk
theorem si_seq {tg e : Expr} {m : ME} (he : SE X W e m) : SI X W tg e (mSeqI m) :=
  (((pi_list he).orF (pi_tup he)).orF (pi_str he)).impF fun σ H Q ⟨μ, S, sd, hs, hl, h⟩ => by
    unfold mSeqI at h
    generalize hr : m sd S = r at h
    cases r with
    | stk => exact h.elim
    | exc x S1 => exact .inl (.inl ⟨μ, S, sd, hs, hl, by rw [hr]; exact h⟩)
    | ok d S1 =>
      cases d with
      | tup xs =>
        refine .inl (.inr ⟨μ, S, sd, hs, hl, ?_⟩)
        rw [hr]
        intro v H' μ' u s r
        cases r with
        | tup ht rl => exact ⟨_, rfl, ⟨_, ht⟩, h _ H' μ' u s (repI_tup ht rl)⟩
      | cst xs =>
        refine .inl (.inl ⟨μ, S, sd, hs, hl, ?_⟩)
        rw [hr]
        intro v H' μ' u s r
        cases r with
        | cst ht rl => exact ⟨_, rfl, ⟨_, ht.sq⟩, h _ H' μ' u s (repI_cst ht rl)⟩
      | loc n =>
        have h : FinA X.mg X.K (RepI X.mg X.K) (fun c d H' => W c d σ H') μ H (match cellL S1 n with
          | some xs => .ok ⟨xs, some n⟩ S1
          | none => .stk) Q := h
        split at h
        · rename_i xs ec
          refine .inl (.inl ⟨μ, S, sd, hs, hl, ?_⟩)
          rw [hr]
          intro v H' μ' u s r
          cases r with
          | loc en =>
            obtain ⟨vs, hq, rl⟩ := s.cellL en ec
            exact ⟨_, rfl, ⟨vs, .inl hq⟩, h _ H' μ' u s (repI_lst en)⟩
        · exact h.elim
      | str x =>
        refine .inr ⟨μ, S, sd, hs, hl, ?_⟩
        rw [hr]
        intro v H' μ' u s r
        cases r with
        | str x => exact ⟨_, rfl, h _ H' μ' u s repI_str⟩
      | _ => exact h.elim
def c62 (i : Int) : Bool := decide (-(2 ^ 62) ≤ i) && decide (i < 2 ^ 62)
theorem c62_ok {i : Int} (h : c62 i = true) : -(2 ^ 62) ≤ i ∧ i < 2 ^ 62 := by
  unfold c62 at h
  simp only [Bool.and_eq_true, decide_eq_true_eq] at h
  exact h
def mRng1 (a : MA) : MI := fun sd S => (a sd S).bind fun ds S1 => match ds with
  | [.int j] => if c62 j then .ok ⟨rngD 0 j.toNat, none⟩ S1 else .stk
  | _ => .stk
def mRng2 (a : MA) : MI := fun sd S => (a sd S).bind fun ds S1 => match ds with
  | [.int i, .int j] => if c62 i && c62 j then .ok ⟨rngD i (j - i).toNat, none⟩ S1 else .stk
  | _ => .stk
theorem si_range1 {tg a : Expr} {ma : MA} {p pos : Pos} (hm : X.mg "range" = none) (ha : SA X W [a] ma) (hg : Gl X "range" := by rfl) (hs : starEach [a] X.env = [(false, eval a X.env)] := by rfl) : SI X W tg (.Call (.Name "range" p) [a] [] pos) (mRng1 ma) :=
  (pi_range1 hg hm ha hs).impF fun σ H Q ⟨μ, S, sd, hs, hl, h⟩ => tA_bind (Rep' := RepI X.mg X.K) hs hl h fun ds S1 μ1 vs H1 hs1 hl1 u1 r1 h1 => by
    split at h1
    · split at h1
      · rename_i j hc
        obtain ⟨v, rfl, r⟩ := r1.one
        exact ⟨j, by rw [r.inv_int], (c62_ok hc).1, (c62_ok hc).2, h1 _ H1 μ1 .refl hs1 repI_rng⟩
      · exact h1.elim
    · exact h1.elim
theorem si_range2 {tg a b : Expr} {ma : MA} {p pos : Pos} (hm : X.mg "range" = none) (ha : SA X W [a, b] ma) (hg : Gl X "range" := by rfl) (hs : starEach [a, b] X.env = [(false, eval a X.env), (false, eval b X.env)] := by rfl) (hs2 : starEach [b] X.env = [(false, eval b X.env)] := by rfl) : SI X W tg (.Call (.Name "range" p) [a, b] [] pos) (mRng2 ma) :=
  (pi_range2 hg hm ha hs hs2).impF fun σ H Q ⟨μ, S, sd, hs, hl, h⟩ => tA_bind (Rep' := RepI X.mg X.K) hs hl h fun ds S1 μ1 vs H1 hs1 hl1 u1 r1 h1 => by
    split at h1
    · split at h1
      · rename_i i j hc
        obtain ⟨v, w, rfl, r, r'⟩ := r1.two
        simp only [Bool.and_eq_true] at hc
        exact ⟨i, j, by rw [r.inv_int, r'.inv_int], ⟨(c62_ok hc.1).1, (c62_ok hc.1).2, (c62_ok hc.2).1, (c62_ok hc.2).2⟩, h1 _ H1 μ1 .refl hs1 repI_rng⟩
      · exact h1.elim
    · exact h1.elim
end

/-! ### for -/
open Classical in
noncomputable def forGo (it : ItD) (g : MG) (b : MS) : List D → Sl → List Cell → ResS
  | [], sd, S => if it.okAt S then .nx sd S else .stk
  | x :: r, sd, S => if it.okAt S then (match g x sd S with
    | .ok sd1 S1 => (match b sd1 S1 with
      | .nx sd2 S2 => forGo it g b r sd2 S2
      | .ct sd2 S2 => forGo it g b r sd2 S2
      | .bk sd2 S2 => .nx sd2 S2
      | .rt d S2 => .rt d S2
      | .exc e sd2 S2 => .exc e sd2 S2
      | .stk => .stk)
    | .exc e S1 => .exc e sd S1
    | .stk => .stk) else .stk
noncomputable def mFor (mi : MI) (g : MG) (b : MS) : MS := fun sd S => (mi sd S).thenS sd fun it S1 => forGo it g b it.xs sd S1
section
variable {X : Cx} {W : WX}
theorem ss_for {tg iter : Expr} {body : List Stmt} {mi : MI} {g : MG} {b : MS} {pos : Pos} (hp : PassesOwn (model X.prog X.w) X.A X.env X.xe) (hc : X.calm = true) (hi : SI X W tg iter mi) (hg : SG X W tg g) (hb : SB X W body b)
    (hs : ∀ x, foldedSetIterable iter X.env x = pure x := by intro _; rfl) : SS X W (.For tg iter body [] pos) (mFor mi g b) := by
  refine (ps_for hp hc hi hg hb hs).impF fun D σ H ⟨μ, S, sd, hs, hl, h⟩ => ?_
  unfold mFor at h
  refine ⟨μ, S, sd, hs, hl, ?_⟩
  generalize hr : mi sd S = r at h
  cases r with
  | stk => exact h
  | exc x S1 => exact fun c dx H' μ' u s e => h c dx σ H' μ' u s (hl.up u) e
  | ok it S1 =>
    intro J H1 μ1 u1 s1 rJ
    have h : FinS X.mg X.K W μ H (forGo it g b it.xs sd S1) D := h
    refine ⟨fun i m σ H => m = it.xs.length - i ∧ i ≤ it.xs.length ∧ ∃ μ S sd, StoRep X.mg X.K μ S H ∧ SlRep X.K μ H sd σ ∧ Up μ1 H1 μ H ∧ FinS X.mg X.K W μ H (forGo it g b (it.xs.drop i) sd S) D,
      ⟨it.xs.length, by simp, Nat.zero_le _, μ1, S1, sd, s1, hl.up u1, .refl, FinS.up u1 h⟩, ?_⟩
    rintro i m σ2 H2 ⟨rfl, hi, μ2, S2, sd2, s2, l2, u2, h2⟩
    by_cases hlt : i < it.xs.length
    · rw [List.drop_eq_getElem_cons hlt] at h2
      unfold forGo at h2
      split at h2
      · rename_i ok
        obtain ⟨go, yl⟩ := (rJ μ2 H2 S2 u2 s2 ok i).1 it.xs[i] (by simp [hlt])
        refine .inr ⟨go, fun σ' H' => ∃ μ S sd, StoRep X.mg X.K μ S H' ∧ SlRep X.K μ H' sd σ' ∧ Up μ1 H1 μ H' ∧ FinS X.mg X.K W μ H' (forGo it g b (it.xs.drop (i + 1)) sd S) D, fun σ' H' q => ⟨_, by omega, rfl, hlt, q⟩, fun x H3 y => ?_⟩
        obtain ⟨u3, s3, r3⟩ := yl x H3 y
        refine ⟨μ2, S2, sd2, it.xs[i], s3, l2.up u3, r3, ?_⟩
        have h3 := FinS.up u3 h2
        generalize hg : g it.xs[i] sd2 S2 = rg at h3
        cases rg with
        | stk => exact h3
        | exc e S3 => exact fun c dx H' μ' u s e => h3 c dx σ2 H' μ' u s ((l2.up u3).up u) e
        | ok sd3 S3 =>
          intro σ4 H4 μ4 u4 s4 l4
          refine ⟨μ4, S3, sd3, s4, l4, ?_⟩
          have h4 := FinS.up u4 h3
          have uu : Up μ1 H1 μ4 H4 := (u2.trans u3).trans u4
          have h4 : FinS X.mg X.K W μ4 H4 (match b sd3 S3 with
            | .nx sd2 S2 => forGo it g b (it.xs.drop (i + 1)) sd2 S2
            | .ct sd2 S2 => forGo it g b (it.xs.drop (i + 1)) sd2 S2
            | .bk sd2 S2 => .nx sd2 S2
            | .rt d S2 => .rt d S2
            | .exc e sd2 S2 => .exc e sd2 S2
            | .stk => .stk) D := h4
          generalize hbr : b sd3 S3 = rb at h4
          cases rb with
          | stk => exact h4
          | exc e sd5 S5 => exact h4
          | rt d S5 => exact h4
          | bk sd5 S5 => exact h4
          | nx sd5 S5 => exact fun σ5 H5 μ5 u5 s5 l5 => ⟨μ5, S5, sd5, s5, l5, uu.trans u5, FinS.up u5 h4⟩
          | ct sd5 S5 => exact fun σ5 H5 μ5 u5 s5 l5 => ⟨μ5, S5, sd5, s5, l5, uu.trans u5, FinS.up u5 h4⟩
      · exact h2.elim
    · have e : i = it.xs.length := by omega
      subst e
      rw [List.drop_length] at h2
      unfold forGo at h2
      split at h2
      · rename_i ok
        exact .inl ⟨(rJ μ2 H2 S2 u2 s2 ok _).2 (Nat.le_refl _), h2 σ2 H2 μ2 .refl s2 l2⟩
      · exact h2.elim

/-! ### while -/
def whGo (t : MT) (b : MS) : Nat → Sl → List Cell → ResS
  | 0, _, _ => .stk
  | n + 1, sd, S => (t sd S).thenS sd fun c S1 => if c = true then (match b sd S1 with
      | .nx sd2 S2 => whGo t b n sd2 S2
      | .ct sd2 S2 => whGo t b n sd2 S2
      | .bk sd2 S2 => .nx sd2 S2
      | .rt d S2 => .rt d S2
      | .exc e sd2 S2 => .exc e sd2 S2
      | .stk => .stk) else .nx sd S1
def mWhile (n : Nat) (t : MT) (b : MS) : MS := whGo t b n
theorem ss_while (n : Nat) {c : Expr} {body : List Stmt} {t : MT} {b : MS} {pos : Pos} (hp : PassesOwn (model X.prog X.w) X.A X.env X.xe) (hc : ST X W c t) (hb : SB X W body b) : SS X W (.While c body [] pos) (mWhile n t b) := by
  refine (ps_while hp hc hb).impF fun D σ H ⟨μ, S, sd, hs, hl, h⟩ => ?_
  refine ⟨fun m σ H => ∃ μ S sd, StoRep X.mg X.K μ S H ∧ SlRep X.K μ H sd σ ∧ FinS X.mg X.K W μ H (whGo t b m sd S) D, ⟨n, μ, S, sd, hs, hl, h⟩, ?_⟩
  rintro m σ1 H1 ⟨μ1, S1, sd1, s1, l1, h1⟩
  cases m with
  | zero => exact h1.elim
  | succ m =>
    refine tT_then s1 l1 h1 fun c S2 μ2 H2 s2 l2 u2 h2 => ?_
    cases c with
    | false => exact h2 σ1 H2 μ2 .refl s2 l2
    | true =>
      refine ⟨fun σ H => ∃ μ S sd, StoRep X.mg X.K μ S H ∧ SlRep X.K μ H sd σ ∧ FinS X.mg X.K W μ H (whGo t b m sd S) D, fun σ' H' q => ⟨m, Nat.lt_succ_self _, q⟩, μ2, S2, sd1, s2, l2, ?_⟩
      have h2 : FinS X.mg X.K W μ2 H2 (match b sd1 S2 with
            | .nx sd2 S2 => whGo t b m sd2 S2
            | .ct sd2 S2 => whGo t b m sd2 S2
            | .bk sd2 S2 => .nx sd2 S2
            | .rt d S2 => .rt d S2
            | .exc e sd2 S2 => .exc e sd2 S2
            | .stk => .stk) D := h2
      generalize hbr : b sd1 S2 = rb at h2
      cases rb with
      | stk => exact h2
      | exc e sd5 S5 => exact h2
      | rt d S5 => exact h2
      | bk sd5 S5 => exact h2
      | nx sd5 S5 => exact fun σ5 H5 μ5 u5 s5 l5 => ⟨μ5, S5, sd5, s5, l5, FinS.up u5 h2⟩
      | ct sd5 S5 => exact fun σ5 H5 μ5 u5 s5 l5 => ⟨μ5, S5, sd5, s5, l5, FinS.up u5 h2⟩
end

/-! ### comprehensions; lists that are no cells (used at once) -/
/-- a target whose stores keep to the slots vs -/
def tGw (X : Cx) (W : WX) (vs : List Nat) (g : MG) : TG := fun v σ H Q => ∃ μ S sd d, StoRep X.mg X.K μ S H ∧ SlRep X.K μ H sd σ ∧ RepV X.K μ H d v ∧ FinA X.mg X.K (fun μ H sd' σ' => SlRep X.K μ H sd' σ' ∧ wipe σ' vs = wipe σ vs) (fun c d H' => W c d σ H') μ H (g d sd S) Q
abbrev SGw (X : Cx) (W : WX) (vs : List Nat) (tg : Expr) (g : MG) : Prop := PG X tg (tGw X W vs g)
theorem wipe_set {σ : St} {i : Nat} {o : Option V} : ∀ {vs : List Nat}, i ∈ vs → wipe (σ.set i o) vs = wipe σ vs
  | [], h => by cases h
  | v :: vs, h => by
    by_cases hv : i ∈ vs
    · show (wipe (σ.set i o) vs).set v none = (wipe σ vs).set v none
      rw [wipe_set hv]
    · have e : i = v := by
        rcases List.mem_cons.mp h with e | e
        · exact e
        · exact absurd e hv
      subst e
      have out : ∀ (us : List Nat) (τ : St), i ∉ us → wipe (τ.set i o) us = (wipe τ us).set i o := by
        intro us
        induction us with
        | nil => intro τ _; rfl
        | cons u us ih =>
          intro τ hu
          rw [List.mem_cons, not_or] at hu
          show (wipe (τ.set i o) us).set u none = ((wipe τ us).set u none).set i o
          rw [ih τ hu.2, List.set_comm _ _ hu.1]
      show (wipe (σ.set i o) vs).set i none = (wipe σ vs).set i none
      rw [out vs σ hv, List.set_set]
section
variable {X : Cx} {W : WX}
theorem sgw_name (i : Nat) {vs : List Nat} {x : Str} {pos : Pos} (hN : X.N.Nodup) (hv : i ∈ vs := by decide) (hi : X.N[i]? = some x := by rfl) (hx : Loc X.env.scope x := by first | exact Or.inl rfl | exact Or.inr rfl) (hf : X.fn x = true ∨ X.env.scope.names.lookup x = some .local := by first | exact .inl rfl | exact .inr rfl) : SGw X W vs (.Name x pos) (gN i) :=
  (pg_name hN hi hx hf).impF fun v σ H Q ⟨μ, S, sd, d, hs, hl, r, h⟩ => h _ H μ .refl hs ⟨hl.set r, wipe_set hv⟩
def tGsw (X : Cx) (W : WX) (ws : List Nat) (g : MGs) : TGs := fun vs σ H Q => ∃ μ S sd ds, StoRep X.mg X.K μ S H ∧ SlRep X.K μ H sd σ ∧ RepL X.K μ H ds vs ∧ FinA X.mg X.K (fun μ H sd' σ' => SlRep X.K μ H sd' σ' ∧ wipe σ' ws = wipe σ ws) (fun c d H' => W c d σ H') μ H (g ds sd S) Q
abbrev SGsw (X : Cx) (W : WX) (ws : List Nat) (tgs : List Expr) (g : MGs) : Prop := PGs X tgs (tGsw X W ws g)
theorem sgsw_nil {ws : List Nat} : SGsw X W ws [] gsNil := pgs_nil.impF fun vs σ H Q ⟨μ, S, sd, ds, hs, hl, r, h⟩ => by
  cases r with
  | nil => exact ⟨rfl, h σ H μ .refl hs ⟨hl, rfl⟩⟩
  | cons _ _ => exact h.elim
theorem sgsw_cons {ws : List Nat} {e : Expr} {es : List Expr} {g : MG} {r : MGs} (h1 : SGw X W ws e g) (h2 : SGsw X W ws es r) (nx : ∀ d sd S x S', g d sd S ≠ .exc x S') (nr : ∀ d sd S x S', r d sd S ≠ .exc x S')
    (hst : (assignEach (e :: es) X.env).map (·.2) = assign e X.env :: (assignEach es X.env).map (·.2) := by rfl) : SGsw X W ws (e :: es) (gsCons g r) :=
  (pgs_cons h1 h2 hst).impF fun vs σ H Q ⟨μ, S, sd, ds, hs, hl, rp, h⟩ => by
    cases rp with
    | nil => exact h.elim
    | @cons d v ds vs rd rr =>
      refine ⟨v, vs, rfl, μ, S, sd, d, hs, hl, rd, ?_⟩
      have h : FinA X.mg X.K (fun μ H sd' σ' => SlRep X.K μ H sd' σ' ∧ wipe σ' ws = wipe σ ws) (fun c d H' => W c d σ H') μ H ((g d sd S).bind fun sd1 S1 => r ds sd1 S1) Q := h
      generalize hr : g d sd S = res at h
      cases res with
      | ok sd1 S1 =>
        rintro σ' H' μ' u s ⟨l, hw⟩
        refine ⟨μ', S1, sd1, ds, s, l, rr.up u, ?_⟩
        have h' : FinA X.mg X.K (fun μ H sd' σ' => SlRep X.K μ H sd' σ' ∧ wipe σ' ws = wipe σ ws) (fun c d H' => W c d σ H') μ' H' (r ds sd1 S1) Q := FinA.up u h
        generalize hr2 : r ds sd1 S1 = res2 at h'
        cases res2 with
        | ok sd2 S2 => exact fun σ3 H3 μ3 u3 s3 ⟨l3, w3⟩ => h' σ3 H3 μ3 u3 s3 ⟨l3, w3.trans hw⟩
        | exc x S2 => exact absurd hr2 (nr _ _ _ _ _)
        | stk => exact h'
      | exc x S1 => exact absurd hr (nx _ _ _ _ _)
      | stk => exact h
theorem sgw_tup {ws : List Nat} {es : List Expr} {k : Nat} {g : MGs} {n : Nat} {pos : Pos} (hc : X.calm = true) (h : SGsw X W ws es g) (hn : (assignEach es X.env).length = n := by rfl) (hst : (assignEach es X.env).findIdx? (·.1) = none := by rfl) : SGw X W ws (.Tuple es k pos) (gTupD n g) :=
  (pg_tup hc h hn hst).impF fun v σ H Q ⟨μ, S, sd, d, hs, hl, r, h⟩ => by
    unfold gTupD at h
    split at h
    · split at h
      · rename_i ds hz
        cases r with
        | tup ht rl => exact ⟨_, _, rfl, ht, by rw [← rl.length]; exact hz, μ, S, sd, ds, hs, hl, rl, h⟩
      · exact h.elim
    · exact h.elim
end
end Fx

namespace Fx
open PySem PySem.Spec PyProof.Rows L2

def wipeD (sd : Sl) : List Nat → Sl
  | [] => sd
  | v :: vs => (wipeD sd vs).set v none
theorem SlRep.wipe {K : PySem.W.Frag} {μ : Mu} {H : Hp} {sd : Sl} {σ : St} (h : SlRep K μ H sd σ) : ∀ ws : List Nat, SlRep K μ H (wipeD sd ws) (wipe σ ws)
  | [] => h
  | v :: vs => (SlRep.wipe h vs).none
theorem wipe_idem (σ : St) : ∀ {ws us : List Nat}, (∀ w ∈ us, w ∈ ws) → wipe (wipe σ us) ws = wipe σ ws
  | ws, [], _ => rfl
  | ws, u :: us, h => by
    show wipe ((wipe σ us).set u none) ws = wipe σ ws
    rw [wipe_set (h u (by simp))]
    exact wipe_idem σ fun w hw => h w (by simp [hw])
abbrev W0 : WX := fun _ _ _ _ => False
/-- a list that is no cell -/
def RepF (K : PySem.W.Frag) (H0 : Hp) (μ : Mu) (H : Hp) (ds : List D) (v : V) : Prop := ∃ p vs, v = .ref p ∧ H p = some (.lst vs) ∧ p ∉ μ ∧ H0 p = none ∧ RepL K μ H ds vs
abbrev ML := Sl → List Cell → Res (List D)
def tL (X : Cx) (W : WX) (m : ML) : TE := fun σ H Q => ∃ μ S sd, StoRep X.mg X.K μ S H ∧ SlRep X.K μ H sd σ ∧ FinA X.mg X.K (RepF X.K H) (fun c d H' => W c d σ H') μ H (m sd S) Q
abbrev SL (X : Cx) (W : WX) (e : Expr) (m : ML) : Prop := PE X e (tL X W m)
abbrev STs (X : Cx) (W : WX) (ifs : List Expr) (m : MT) : Prop := PTs X ifs (tT X W m)
theorem _root_.L2.PTs.impF {X : Cx} {ifs : List Expr} {t t' : TT} (h : PTs X ifs t) (i : ∀ σ H Q, t' σ H Q → t σ H Q) : PTs X ifs t' := ⟨fun pins s σ H Q I q => h.run pins s σ H Q I (i σ H Q q)⟩
def mYes : MT := fun _ S => .ok true S
open Classical in
noncomputable def lcGo (it : ItD) (ws : List Nat) (g : MG) (t : MT) (e : ME) (sd : Sl) : List D → List D → List Cell → Res (List D)
  | [], acc, S => if it.okAt S then .ok acc S else .stk
  | x :: r, acc, S => if it.okAt S then (match g x (wipeD sd ws) S with
    | .ok sd1 S1 => (match t sd1 S1 with
      | .ok b S2 => if b = true then (match e sd1 S2 with
          | .ok y S3 => if acc.length < sizeLine then lcGo it ws g t e sd r (acc ++ [y]) S3 else .stk
          | _ => .stk) else lcGo it ws g t e sd r acc S2
      | _ => .stk)
    | _ => .stk) else .stk
noncomputable def mLc (mi : MI) (ws : List Nat) (g : MG) (t : MT) (e : ME) : ML := fun sd S => (mi sd S).bind fun it S1 => lcGo it ws g t e sd it.xs [] S1
section
variable {X : Cx} {W : WX}
theorem sts_nil : STs X W [] mYes := pts_nil.impF fun σ H Q ⟨μ, S, sd, hs, hl, h⟩ => h true H μ .refl hs rfl
theorem sts_one {c : Expr} {t : MT} (h : ST X W c t) : STs X W [c] t := pts_one h
theorem lcGo_noexc (it : ItD) (ws : List Nat) (g : MG) (t : MT) (e : ME) (sd : Sl) : ∀ (xs acc : List D) (S : List Cell) (x : Ex) (S' : List Cell), lcGo it ws g t e sd xs acc S ≠ .exc x S'
  | [], acc, S, x, S', h => by
    unfold lcGo at h
    split at h <;> cases h
  | y :: r, acc, S, x, S', h => by
    unfold lcGo at h
    split at h
    · split at h
      · split at h
        · split at h
          · split at h
            · split at h
              · exact lcGo_noexc _ _ _ _ _ _ _ _ _ _ _ h
              · cases h
            · cases h
          · exact lcGo_noexc _ _ _ _ _ _ _ _ _ _ _ h
        · cases h
      · cases h
    · cases h
theorem lc_of {mi : MI} {g : MG} {t : MT} {e : ME} (ws : List Nat) (σ : St) (H : Hp) (Q : VK) (h : tL X W (mLc mi ws g t e) σ H Q) : tLc (tI X W mi) (tGw X W0 ws g) (tT X W0 t) (tE X W0 e) ws σ H Q := by
  obtain ⟨μ, S, sd, hs, hl, h⟩ := h
  refine ⟨μ, S, sd, hs, hl, ?_⟩
  unfold mLc at h
  generalize hr : mi sd S = r at h
  cases r with
  | stk => exact h.elim
  | exc x S1 => exact h
  | ok it S1 =>
    intro J H1 μ1 u1 s1 rJ D hD
    have hD1 : D ∉ μ1 := s1.new hD
    have hD0 : H D = none := (u1.back hD).resolve_left fun hm => by
      obtain ⟨n, hn⟩ := List.mem_iff_getElem?.mp hm
      exact hD1 (List.mem_of_getElem? (u1.mu n D hn))
    have h : FinA X.mg X.K (RepF X.K H) (fun c d H' => W c d σ H') μ1 H1 (lcGo it ws g t e sd it.xs [] S1) Q := FinA.up u1 h
    have l1 := hl.up u1
    refine ⟨fun i m H2 => m = it.xs.length - i ∧ i ≤ it.xs.length ∧ ∃ μ2 S2 acc vs, StoRep X.mg X.K μ2 S2 H2 ∧ SlRep X.K μ2 H2 sd σ ∧ Up μ1 H1 μ2 H2 ∧ H2 D = some (.lst vs) ∧ D ∉ μ2 ∧ RepL X.K μ2 H2 acc vs ∧
      FinA X.mg X.K (RepF X.K H) (fun c d H' => W c d σ H') μ1 H1 (lcGo it ws g t e sd (it.xs.drop i) acc S2) Q,
      ⟨it.xs.length, by simp, Nat.zero_le _, μ1, S1, [], [], s1.tmp hD, l1.up (up_tmp hD), up_tmp hD, upd_same, hD1, .nil, h⟩, ?_⟩
    rintro i m H2 ⟨rfl, hi, μ2, S2, acc, vs, s2, l2, u2, eD, nD, rA, h2⟩
    by_cases hlt : i < it.xs.length
    · rw [List.drop_eq_getElem_cons hlt] at h2
      unfold lcGo at h2
      split at h2
      · rename_i okk
        obtain ⟨go, yl⟩ := (rJ μ2 H2 S2 u2 s2 okk i).1 it.xs[i] (by simp [hlt])
        refine .inr ⟨go, fun H2 => ∃ μ2 S2 acc vs, StoRep X.mg X.K μ2 S2 H2 ∧ SlRep X.K μ2 H2 sd σ ∧ Up μ1 H1 μ2 H2 ∧ H2 D = some (.lst vs) ∧ D ∉ μ2 ∧ RepL X.K μ2 H2 acc vs ∧
          FinA X.mg X.K (RepF X.K H) (fun c d H' => W c d σ H') μ1 H1 (lcGo it ws g t e sd (it.xs.drop (i + 1)) acc S2) Q, fun H' q => ⟨_, by omega, rfl, hlt, q⟩, fun x H3 y => ?_⟩
        obtain ⟨u3, s3, r3⟩ := yl x H3 y
        refine ⟨μ2, S2, wipeD sd ws, it.xs[i], s3, (l2.up u3).wipe ws, r3, ?_⟩
        generalize hg : g it.xs[i] (wipeD sd ws) S2 = rg at h2
        cases rg with
        | stk => exact h2.elim
        | exc x S3 => exact h2.elim
        | ok sd3 S3 =>
          rintro σ4 H4 μ4 u4 s4 ⟨l4, w4⟩
          refine ⟨?_, ?_⟩
          · rw [w4, wipe_idem σ fun w hw => hw]
          · refine ⟨μ4, S3, sd3, s4, l4, ?_⟩
            simp only at h2
            generalize ht : t sd3 S3 = rt at h2
            cases rt with
            | stk => exact h2.elim
            | exc x S4 => exact h2.elim
            | ok b S5 =>
              rintro b' H5 μ5 u5 s5 rfl
              have uu : Up μ2 H2 μ5 H5 := (u3.trans u4).trans u5
              have e5 := uu.rest D _ eD nD
              have n5 := uu.off eD nD
              simp only at h2
              cases b with
              | false =>
                rw [if_neg Bool.false_ne_true] at h2 ⊢
                exact ⟨μ5, S5, acc, vs, s5, l2.up uu, u2.trans uu, e5, n5, rA.up uu, h2⟩
              | true =>
                rw [if_pos rfl] at h2 ⊢
                refine ⟨μ5, S5, sd3, s5, l4.up u5, ?_⟩
                generalize he : e sd3 S5 = re at h2
                cases re with
                | stk => exact h2.elim
                | exc x S6 => exact h2.elim
                | ok yd S6 =>
                  intro yv H6 μ6 u6 s6 r6
                  simp only at h2
                  split at h2
                  · rename_i hz
                    have uu6 := uu.trans u6
                    have e6 := uu6.rest D _ eD nD
                    have n6 := uu6.off eD nD
                    have uO : UpR μ6 H6 μ6 (upd H6 D (.lst (vs ++ [yv]))) := upR_other e6
                    refine ⟨vs, e6, by rw [← rA.length]; exact hz, μ6, S6, acc ++ [yd], vs ++ [yv], s6.other n6 e6, (l2.up uu6).upR uO, (u2.trans uu6).other hD e6, upd_same, n6, ((rA.up uu6).snoc r6).upR uO, h2⟩
                  · exact h2.elim
      · exact h2.elim
    · have e : i = it.xs.length := by omega
      subst e
      rw [List.drop_length] at h2
      unfold lcGo at h2
      split at h2
      · rename_i okk
        refine .inl ⟨(rJ μ2 H2 S2 u2 s2 okk _).2 (Nat.le_refl _), ?_⟩
        exact h2 (.ref D) H2 μ2 u2 s2 ⟨D, vs, rfl, eD, nD, hD0, rA⟩
      · exact h2.elim
theorem sl_lc {elt tg iter : Expr} {ifs : List Expr} {scope : Scope} {pos : Pos} {mi : MI} {g : MG} {t : MT} {e : ME} (own : List (Str × Nat)) (hc : X.calm = true) (hN : X.N.Nodup) (hi : SI X W tg iter mi) (ok : BlkOk X.N X.env.scope scope own)
    (hg : ∀ (s : Shared) (H : Hp) (C : Addr) (cl : List (Str × Addr)) (fp : List Addr), SGw (X.blk s H scope (compEnvC scope cl C X.env) fp) W0 (own.map (·.2)) tg g) (ht : ∀ (s : Shared) (H : Hp) (C : Addr) (cl : List (Str × Addr)) (fp : List Addr), STs (X.blk s H scope (compEnvC scope cl C X.env) fp) W0 ifs t)
    (he : ∀ (s : Shared) (H : Hp) (C : Addr) (cl : List (Str × Addr)) (fp : List Addr), SE (X.blk s H scope (compEnvC scope cl C X.env) fp) W0 elt e) (hs : ∀ x, foldedSetIterable iter X.env x = pure x := by intro _; rfl) :
    SL X W (.ListComp elt [⟨tg, iter, ifs, 0⟩] scope pos) (mLc mi (own.map (·.2)) g t e) :=
  (pe_lc (g := tGw X W0 (own.map fun x : Str × Nat => x.2) g) (tt := tT X W0 t) (te := tE X W0 e) hc hN hi ok (fun s H C cl fp => hg s H C cl fp) (fun s H C cl fp => ht s H C cl fp) (fun s H C cl fp => he s H C cl fp) hs).impF fun σ H Q h => lc_of _ σ H Q h
/-- [a, b, ..] used at once -/
theorem sl_lst {es : List Expr} {m : MA} {pos} (h : SA X W es m) : SL X W (.List es pos) (fun sd S => (m sd S).bind fun ds S1 => if ds.length ≤ sizeLine then .ok ds S1 else .stk) :=
  (pe_lst h).impF fun σ H Q ⟨μ, S, sd, hs, hl, h⟩ => tA_bind (Rep' := RepF X.K H) hs hl h fun ds S1 μ1 vs H1 hs1 hl1 u1 r1 h1 => by
    split at h1
    · rename_i hz
      refine ⟨by rw [← r1.length]; exact hz, fun p hp => ?_⟩
      have n1 := hs1.new hp
      have h0 : H p = none := (u1.back hp).resolve_left fun hm => by
        obtain ⟨n, hn⟩ := List.mem_iff_getElem?.mp hm
        exact n1 (List.mem_of_getElem? (u1.mu n p hn))
      exact h1 (.ref p) _ μ1 (up_tmp hp) (hs1.tmp hp) ⟨p, vs, rfl, upd_same, n1, h0, r1.up (up_tmp hp)⟩
    · exact h1.elim
/-- .. becomes a cell -/
def mFresh (m : ML) : ME := fun sd S => (m sd S).bind fun ds S1 => .ok (.loc S1.length) (S1 ++ [.lst ds])
theorem StoRep.adopt {mg : Str → Option Value} {K : PySem.W.Frag} {μ : Mu} {S : List Cell} {H : Hp} {p : Addr} {c : Cell} (h : StoRep mg K μ S H) (hp : p ∉ μ) (hc : CellOk mg K (μ ++ [p]) H p c) : StoRep mg K (μ ++ [p]) (S ++ [c]) H where
  nd := by
    rw [List.nodup_append]
    refine ⟨h.nd, by simp, fun x hx y hy e => ?_⟩
    rw [List.mem_singleton] at hy
    subst hy; subst e
    exact hp hx
  len := by simp [h.len]
  at_ := fun n c' a e1 e2 => by
    by_cases hn : n < S.length
    · have e1' : S[n]? = some c' := by rw [← e1, List.getElem?_append_left hn]
      have e2' : μ[n]? = some a := by rw [← e2, List.getElem?_append_left (by rw [h.len]; exact hn)]
      exact (h.at_ n c' a e1' e2').keep ⟨fun m b e => by rw [List.getElem?_append_left (List.getElem?_eq_some_iff.mp e).1]; exact e, fun _ _ e => e, fun _ _ _ e => e, fun _ _ e => e⟩ rfl
    · have hn' : n = S.length := by
        have := (List.getElem?_eq_some_iff.mp e1).1
        simp at this; omega
      subst hn'
      have z1 : c = c' := by simpa using e1
      have z2 : p = a := by
        have := h.len
        rw [← this] at e2; simpa using e2
      subst z1; subst z2
      exact hc
theorem se_fresh {e : Expr} {m : ML} (h : SL X W e m) : SE X W e (mFresh m) := by
  refine h.impF fun σ H Q ⟨μ, S, sd, hs, hl, h⟩ => ⟨μ, S, sd, hs, hl, ?_⟩
  unfold mFresh at h
  generalize hr : m sd S = r at h
  cases r with
  | stk => exact h.elim
  | exc x S1 => exact h
  | ok ds S1 =>
    rintro v H1 μ1 u1 s1 ⟨p, vs, rfl, e1, n1, h0, rl⟩
    have up : UpR μ1 H1 (μ1 ++ [p]) H1 := ⟨fun m b e => by rw [List.getElem?_append_left (List.getElem?_eq_some_iff.mp e).1]; exact e, fun _ _ e => e, fun _ _ _ e => e, fun _ _ e => e⟩
    exact h (.ref p) H1 (μ1 ++ [p]) (u1.adopt h0) (s1.adopt n1 ⟨vs, e1, rl.upR up⟩) (.loc (by rw [← s1.len]; simp))
theorem ss_setLc (i : Nat) {y : Str} {py : Pos} {elt tg iter : Expr} {ifs : List Expr} {scope : Scope} {pos spos : Pos} {mi : MI} {g : MG} {t : MT} {e : ME} (own : List (Str × Nat)) (hc : X.calm = true) (hN : X.N.Nodup) (hi : SI X W tg iter mi) (ok : BlkOk X.N X.env.scope scope own)
    (hg : ∀ (s : Shared) (H : Hp) (C : Addr) (cl : List (Str × Addr)) (fp : List Addr), SGw (X.blk s H scope (compEnvC scope cl C X.env) fp) W0 (own.map (·.2)) tg g) (ht : ∀ (s : Shared) (H : Hp) (C : Addr) (cl : List (Str × Addr)) (fp : List Addr), STs (X.blk s H scope (compEnvC scope cl C X.env) fp) W0 ifs t)
    (he : ∀ (s : Shared) (H : Hp) (C : Addr) (cl : List (Str × Addr)) (fp : List Addr), SE (X.blk s H scope (compEnvC scope cl C X.env) fp) W0 elt e) (hs : ∀ x, foldedSetIterable iter X.env x = pure x := by intro _; rfl)
    (hy : X.N[i]? = some y := by rfl) (hyl : X.env.scope.names.lookup y = some .local := by rfl) (hsw : swapsWith (.ListComp elt [⟨tg, iter, ifs, 0⟩] scope pos) (some (.Name y py)) spos.line X.env = pure true := by exact sw_true rfl rfl rfl (by decide +kernel)) :
    SS X W (.Assign [.Name y py] (.ListComp elt [⟨tg, iter, ifs, 0⟩] scope pos) spos) (mSet i (mFresh (mLc mi (own.map (·.2)) g t e))) :=
  (ps_setLc (g := tGw X W0 (own.map fun x : Str × Nat => x.2) g) (tt := tT X W0 t) (te := tE X W0 e) hc hN hy hyl hsw hi ok (fun s H C cl fp => hg s H C cl fp) (fun s H C cl fp => ht s H C cl fp) (fun s H C cl fp => he s H C cl fp) hs).impF fun D σ H ⟨μ, S, sd, hs, hl, h⟩ => by
    refine lc_of _ σ H _ ⟨μ, S, sd, hs, hl, ?_⟩
    unfold mSet mFresh at h
    generalize hr : mLc mi (own.map (·.2)) g t e sd S = r at h
    cases r with
    | stk => exact h.elim
    | exc x S1 => exact fun c dx H' μ' u s e => h c dx σ H' μ' u s (hl.up u) e
    | ok ds S1 =>
      rintro v H1 μ1 u1 s1 ⟨p, vs, rfl, e1, n1, h0, rl⟩
      have up : UpR μ1 H1 (μ1 ++ [p]) H1 := ⟨fun m b e => by rw [List.getElem?_append_left (List.getElem?_eq_some_iff.mp e).1]; exact e, fun _ _ e => e, fun _ _ _ e => e, fun _ _ e => e⟩
      have ua := u1.adopt h0
      exact h _ H1 (μ1 ++ [p]) ua (s1.adopt n1 ⟨vs, e1, rl.upR up⟩) ((hl.up ua).set (.loc (by rw [← s1.len]; simp)))
/-- a built-in called upon such a list -/
abbrev OF := List D → List Cell → Res D
def CallF (X : Cx) (W : WX) (f : Value) (o : OF) : Prop :=
  ∃ r : List V → Hp → VK → Prop, CallR X f r ∧ ∀ σ H μ S ds p vs Q, StoRep X.mg X.K μ S H → H p = some (.lst vs) → RepL X.K μ H ds vs → FinA X.mg X.K (RepV X.K) (fun c d H' => W c d σ H') μ H (o ds S) Q → r [.ref p] H Q
def mF (o : OF) (a : ML) : ME := fun sd S => (a sd S).bind fun ds S1 => o ds S1
theorem mF_of {o : OF} {e : Expr} {ma : ML} {r : List V → Hp → VK → Prop} (h2 : ∀ σ H μ S ds p vs Q, StoRep X.mg X.K μ S H → H p = some (.lst vs) → RepL X.K μ H ds vs → FinA X.mg X.K (RepV X.K) (fun c d H' => W c d σ H') μ H (o ds S) Q → r [.ref p] H Q)
    (σ : St) (H : Hp) (Q : VK) (h : tE X W (mF o ma) σ H Q) : tCB r (tCons (tL X W ma) tNil) σ H Q := by
  obtain ⟨μ, S, sd, hs, hl, h⟩ := h
  refine ⟨μ, S, sd, hs, hl, ?_⟩
  unfold mF at h
  generalize hr : ma sd S = ra at h
  cases ra with
  | stk => exact h.elim
  | exc x S1 => exact h
  | ok ds S1 =>
    rintro v H1 μ1 u1 s1 ⟨p, vs, rfl, e1, n1, h0, rl⟩
    exact h2 σ H1 μ1 S1 ds p vs Q s1 e1 rl (FinA.up u1 h)
theorem se_callFB {id : String} {x : Str} {o : OF} {e : Expr} {ma : ML} {p pos : Pos} (hc : CallF X W (.builtin id) o) (hm : X.mg x = none) (ha : SL X W e ma) (hv : bootBuiltins x = some (.builtin id) := by decide +kernel) (hg : Gl X x := by rfl) (hn : x ≠ "__name__" := by decide) (hdb : (x == ("__debug__" : Str)) = false := by decide)
    (hst : starEach [e] X.env = (false, eval e X.env) :: starEach [] X.env := by rfl) (hpl : (backTo pos (starEach [] X.env)).any (·.1) = false := by rfl) : SE X W (.Call (.Name x p) [e] [] pos) (mF o ma) := by
  obtain ⟨r, h1, h2⟩ := hc
  exact (pe_callB h1 hg hm hv (pa_cons ha pa_nil hst) hn hdb hst hpl).impF (mF_of (e := e) h2)
theorem se_callFT {T : String} {x : Str} {o : OF} {e : Expr} {ma : ML} {p pos : Pos} (hc : CallF X W (.type T) o) (hm : X.mg x = none) (ha : SL X W e ma) (hv : bootBuiltins x = some (.type T) := by decide +kernel) (hg : Gl X x := by rfl) (hn : x ≠ "__name__" := by decide) (hdb : (x == ("__debug__" : Str)) = false := by decide)
    (hst : starEach [e] X.env = (false, eval e X.env) :: starEach [] X.env := by rfl) (hpl : (backTo pos (starEach [] X.env)).any (·.1) = false := by rfl) : SE X W (.Call (.Name x p) [e] [] pos) (mF o ma) := by
  obtain ⟨r, h1, h2⟩ := hc
  exact (pe_callTy h1 hg hm hv (pa_cons ha pa_nil hst) hn hdb hst hpl).impF (mF_of (e := e) h2)
def oTupF : OF := fun ds S => .ok (.tup ds) S
theorem cf_tuple : CallF X W (.type "tuple") oTupF := ⟨_, call_tuple_of, fun σ H μ S ds p vs Q hs e r h => ⟨p, vs, rfl, .inl ⟨SqL.of e, fun l hn => h (.ref l) _ μ (up_tmp hn) (hs.tmp hn) (.tup (SqT.of upd_same) (r.up (up_tmp hn)))⟩⟩⟩
def oAllF : OF := fun ds S => match blsD ds with | some bs => .ok (.bl (bs.all id)) S | none => .stk
def oAnyF : OF := fun ds S => match blsD ds with | some bs => .ok (.bl (bs.any id)) S | none => .stk
def oSumF : OF := fun ds S => match intsD ds with | some ns => .ok (.int ns.sum) S | none => .stk
def oLenF : OF := fun ds S => .ok (.int ds.length) S
theorem cf_all (hc : X.calm = true) : CallF X W (.builtin "all") oAllF := ⟨_, cr_all hc, fun σ H μ S ds p vs Q hs e r h => by
  unfold oAllF at h
  split at h
  · rename_i bs eb
    exact ⟨p, bs, rfl, by rw [← blsD_ok r eb]; exact SqL.of e, h _ H μ .refl hs (.bl _)⟩
  · exact h.elim⟩
theorem cf_any (hc : X.calm = true) : CallF X W (.builtin "any") oAnyF := ⟨_, cr_any hc, fun σ H μ S ds p vs Q hs e r h => by
  unfold oAnyF at h
  split at h
  · rename_i bs eb
    exact ⟨p, bs, rfl, by rw [← blsD_ok r eb]; exact SqL.of e, h _ H μ .refl hs (.bl _)⟩
  · exact h.elim⟩
theorem cf_sum (hc : X.calm = true) : CallF X W (.builtin "sum") oSumF := ⟨_, cr_sum hc, fun σ H μ S ds p vs Q hs e r h => by
  unfold oSumF at h
  split at h
  · rename_i bs eb
    exact ⟨p, bs, rfl, by rw [← intsD_ok r eb]; exact SqL.of e, h _ H μ .refl hs (.int _)⟩
  · exact h.elim⟩
theorem cf_len : CallF X W (.builtin "len") oLenF := ⟨_, call_len_seq, fun σ H μ S ds p vs Q hs e r h => ⟨p, vs, rfl, .inl (SqL.of e), by rw [← r.length]; exact h _ H μ .refl hs (.int _)⟩⟩
end
end Fx

namespace Fx
open PySem PySem.Spec PyProof.Rows L2

/-! ### cells that nobody names any more are left out -/
mutual
def D.bel (n : Nat) : D → Prop
  | .loc k => k < n
  | .tup l => D.belL n l
  | .cst l => D.belL n l
  | _ => True
def D.belL (n : Nat) : List D → Prop
  | [] => True
  | d :: r => D.bel n d ∧ D.belL n r
end
def Cell.bel (n : Nat) : Cell → Prop
  | .lst xs => D.belL n xs
  | .dic kvs => D.belL n (kvs.map (·.2))
  | .ins _ fs => D.belL n (fs.map (·.2))
  | .tab _ _ => True
section
variable {K : PySem.W.Frag} {mg : Str → Option Value} {μ : Mu} {H : Hp}
mutual
theorem RepV.cut {n : Nat} : ∀ {d : D} {v : V}, RepV K μ H d v → D.bel n d → RepV K (μ.take n) H d v
  | _, _, .non, _ => .non
  | _, _, .bl b, _ => .bl b
  | _, _, .int i, _ => .int i
  | _, _, .str x, _ => .str x
  | _, _, .tup h r, b => .tup h (RepL.cut r (by unfold D.bel at b; exact b))
  | _, _, .cst h r, b => .cst h (RepL.cut r (by unfold D.bel at b; exact b))
  | _, _, .loc h, b => .loc (by unfold D.bel at b; rw [List.getElem?_take_of_lt b]; exact h)
  | _, _, .adr a, _ => .adr a
  | _, _, .lam h, _ => .lam h
theorem RepL.cut {n : Nat} : ∀ {ds : List D} {vs : List V}, RepL K μ H ds vs → D.belL n ds → RepL K (μ.take n) H ds vs
  | _, _, .nil, _ => .nil
  | _, _, .cons h r, b => by
    unfold D.belL at b
    exact .cons (RepV.cut h b.1) (RepL.cut r b.2)
end
mutual
theorem RepV.bel {n : Nat} (hn : μ.length ≤ n) : ∀ {d : D} {v : V}, RepV K μ H d v → D.bel n d
  | _, _, .non => by unfold D.bel; trivial
  | _, _, .bl b => by unfold D.bel; trivial
  | _, _, .int i => by unfold D.bel; trivial
  | _, _, .str x => by unfold D.bel; trivial
  | _, _, .tup h r => by unfold D.bel; exact RepL.bel hn r
  | _, _, .cst h r => by unfold D.bel; exact RepL.bel hn r
  | _, _, .loc h => by unfold D.bel; exact Nat.lt_of_lt_of_le (List.getElem?_eq_some_iff.mp h).1 hn
  | _, _, .adr a => by unfold D.bel; trivial
  | _, _, .lam h => by unfold D.bel; trivial
theorem RepL.bel {n : Nat} (hn : μ.length ≤ n) : ∀ {ds : List D} {vs : List V}, RepL K μ H ds vs → D.belL n ds
  | _, _, .nil => by unfold D.belL; trivial
  | _, _, .cons h r => by unfold D.belL; exact ⟨RepV.bel hn h, RepL.bel hn r⟩
end
theorem CellOk.cut {n : Nat} {a : Addr} {c : Cell} (h : CellOk mg K μ H a c) (b : c.bel n) : CellOk mg K (μ.take n) H a c := by
  cases c with
  | lst xs => obtain ⟨vs, h, r⟩ := h; exact ⟨vs, h, r.cut b⟩
  | dic kvs => obtain ⟨ws, h, k, r⟩ := h; exact ⟨ws, h, k, r.cut b⟩
  | ins c fs => obtain ⟨C, dx, ws, m, h, k, r⟩ := h; exact ⟨C, dx, ws, m, h, k, r.cut b⟩
  | tab P q => exact h
theorem CellOk.bel {n : Nat} {a : Addr} {c : Cell} (h : CellOk mg K μ H a c) (hn : μ.length ≤ n) : c.bel n := by
  cases c with
  | lst xs => obtain ⟨vs, h, r⟩ := h; exact r.bel hn
  | dic kvs => obtain ⟨ws, h, k, r⟩ := h; exact r.bel hn
  | ins c fs => obtain ⟨C, dx, ws, m, h, k, r⟩ := h; exact r.bel hn
  | tab P q => trivial
theorem StoRep.cells {S : List Cell} (h : StoRep mg K μ S H) {n : Nat} (hn : S.length ≤ n) : ∀ c ∈ S, c.bel n := fun c hc => by
  obtain ⟨i, hi⟩ := List.mem_iff_getElem?.mp hc
  have hl := (List.getElem?_eq_some_iff.mp hi).1
  have hm : i < μ.length := by rw [h.len]; exact hl
  exact (h.at_ i c μ[i] hi (by simp [hm])).bel (by rw [h.len]; exact hn)
theorem StoRep.cut {S junk : List Cell} (h : StoRep mg K μ (S ++ junk) H) (b : ∀ c ∈ S, c.bel S.length) : StoRep mg K (μ.take S.length) S H where
  nd := h.nd.sublist (List.take_sublist _ _)
  len := by
    have := h.len
    rw [List.length_take, this, List.length_append]
    omega
  at_ := fun n c a e1 e2 => by
    have hl := (List.getElem?_eq_some_iff.mp e1).1
    rw [List.getElem?_take_of_lt hl] at e2
    exact (h.at_ n c a (by rw [List.getElem?_append_left hl]; exact e1) e2).cut (b c (List.mem_of_getElem? e1))
theorem Up.cut {μ' : Mu} {H' : Hp} {n : Nat} (u : Up μ H μ' H') (hn : μ.length ≤ n) : Up μ H (μ'.take n) H' where
  mu := fun i a e => by rw [List.getElem?_take_of_lt (Nat.lt_of_lt_of_le (List.getElem?_eq_some_iff.mp e).1 hn)]; exact u.mu i a e
  tup := u.tup
  frz := u.frz
  ext := u.ext
  rest := u.rest
  fresh := fun b h => u.fresh b (List.mem_of_mem_take h)
theorem RepL.map {ds : List D} {vs : List V} (r : RepL K μ H ds vs) : ∀ (i : Nat) (d : D), (ds.map some)[i]? = some (some d) → ∃ v, (vs.map some)[i]? = some (some v) ∧ RepV K μ H d v := fun i d e => by
  rw [List.getElem?_map] at e
  obtain ⟨d', e1, e2⟩ := Option.map_eq_some_iff.mp e
  cases e2
  obtain ⟨v, e3, r3⟩ := r.getD e1
  exact ⟨v, by rw [List.getElem?_map, e3]; rfl, r3⟩
end
def startD (n : Nat) (ds : List D) : Sl := ds.map some ++ List.replicate (n - ds.length) none
theorem slRep_start {K : PySem.W.Frag} {μ : Mu} {H : Hp} {ds : List D} {vs : List V} (N : List Str) (r : RepL K μ H ds vs) : SlRep K μ H (startD N.length ds) (L2.start N vs) where
  len := by simp [startD, L2.start, r.length]
  at_ := fun i d e => by
    have hl := r.length
    by_cases hi : i < ds.length
    · have e' : (ds.map some)[i]? = some (some d) := by
        unfold startD at e
        rwa [List.getElem?_append_left (by simpa using hi)] at e
      obtain ⟨v, e1, r1⟩ := r.map i d e'
      refine ⟨v, ?_, r1⟩
      unfold L2.start
      rw [List.getElem?_append_left (by simp; omega)]
      exact e1
    · unfold startD at e
      rw [List.getElem?_append_right (by simp; omega)] at e
      have := List.mem_of_getElem? e
      rw [List.mem_replicate] at this
      cases this.2
/-- what a def's body came to, as its summary tells it -/
def RefR (S : List Cell) (r : Res D) (b : ResS) : Prop := match r with
  | .stk => True
  | .ok d S1 => S.length ≤ S1.length ∧ d.bel S1.length ∧ (∀ c ∈ S1, c ∈ S ∨ c.bel S1.length) ∧ ∃ junk, b = .rt d (S1 ++ junk) ∨ (d = .non ∧ ∃ sd', b = .nx sd' (S1 ++ junk))
  | .exc x S1 => S.length ≤ S1.length ∧ D.belL S1.length (x.fs.map (·.2)) ∧ (∀ c ∈ S1, c ∈ S ∨ c.bel S1.length) ∧ ∃ junk sd', b = .exc x sd' (S1 ++ junk)
section
variable {P : Program} {w : World} {K : PySem.W.Frag} {mg : Str → Option Value} {base : Heap}
/-- a global def as it stands behind the top -/
def IsFn (K : PySem.W.Frag) (mg : Str → Option Value) (x : Str) (st : Stmt) (ps : List Str) : Prop := ∃ f fd, mg x = some (.ref f) ∧ Fun K x x st f fd ∧ Binds K fd ps []
abbrev bodyX (P : Program) (w : World) (K : PySem.W.Frag) (mg : Str → Option Value) (base : Heap) (N : List Str) (x : Str) (st : Stmt) (f : Addr) (cdv : Value) (A : Around) (outer : List Env) (s : Shared) (H : Hp) (E : XK) : Cx := cxOf (L2.CX P w) P w K mg base N x (defScope st) f cdv A outer s H E
theorem fnOk_def {x : Str} {st : Stmt} {N ps : List Str} {k : Nat} {m : List D → List Cell → Res D} {mb : MS} {f : Addr} {fd : FuncData} (F : Fun K x x st f fd) (S : FnScope N ps (defScope st))
    (hb : ∀ (f : Addr) (cdv : Value) (A : Around) (outer : List Env) (s : Shared) (H : Hp) (E : XK), Takes (bodyX P w K mg base N x st f cdv A outer s H E) (fun cls d _ H' => E cls d H') →
      PassesOwn (model P w) (bodyX P w K mg base N x st f cdv A outer s H E).A (bodyX P w K mg base N x st f cdv A outer s H E).env (bodyX P w K mg base N x st f cdv A outer s H E).xe → Room k (bodyX P w K mg base N x st f cdv A outer s H E).A →
      SB (bodyX P w K mg base N x st f cdv A outer s H E) (fun cls d _ H' => E cls d H') (defBody st) mb)
    (hm : ∀ ds S, ds.length = ps.length → RefR S (m ds S) (mb (startD N.length ds) S)) : FnOk P w K mg base (L2.CX P w) (k + 1) f fd ps (spM mg K ps.length m) := by
  refine F.okX S (fun vs H Q E h => h.1) (fun cdv A outer s H vs Q E hr h => ?_)
  obtain ⟨hlen, μ, S0, ds, hs, rl, hF⟩ := h
  refine ⟨_, hb f cdv A outer s H E (takes_of rfl rfl rfl rfl) (passes_of rfl) hr, μ, S0, startD N.length ds, hs, slRep_start N rl, ?_⟩
  have hR := hm ds S0 (by rw [rl.length]; exact hlen)
  generalize m ds S0 = r at hF hR
  generalize mb (startD N.length ds) S0 = b at hR
  have hlen := hs.len
  cases r with
  | stk => exact hF.elim
  | ok d S1 =>
    obtain ⟨c1, c2, c3, junk, hb⟩ := hR
    have hc : ∀ c ∈ S1, c.bel S1.length := fun c hm => (c3 c hm).elim (hs.cells c1 c) id
    rcases hb with rfl | ⟨rfl, sd', rfl⟩
    · exact fun v H' μ' u s r => hF v H' (μ'.take S1.length) (u.cut (by omega)) (s.cut hc) (r.cut c2)
    · exact fun σ' H' μ' u s l => hF .non H' (μ'.take S1.length) (u.cut (by omega)) (s.cut hc) .non
  | exc x S1 =>
    obtain ⟨c1, c2, c3, junk, sd', rfl⟩ := hR
    have hc : ∀ c ∈ S1, c.bel S1.length := fun c hm => (c3 c hm).elim (hs.cells c1 c) id
    exact fun cls dx σ' H' μ' u s l ⟨C, dd, fs, e1, e2, e3, e4, e5, e6⟩ => hF cls dx H' (μ'.take S1.length) (u.cut (by omega)) (s.cut hc) ⟨C, dd, fs, e1, e2, e3, e4, e5, e6.cut c2⟩
theorem FnM.def {x : Str} {st : Stmt} {N ps : List Str} {k : Nat} {m : List D → List Cell → Res D} {mb : MS} (F : IsFn K mg x st ps) (S : FnScope N ps (defScope st))
    (hb : ∀ (f : Addr) (cdv : Value) (A : Around) (outer : List Env) (s : Shared) (H : Hp) (E : XK), Takes (bodyX P w K mg base N x st f cdv A outer s H E) (fun cls d _ H' => E cls d H') →
      PassesOwn (model P w) (bodyX P w K mg base N x st f cdv A outer s H E).A (bodyX P w K mg base N x st f cdv A outer s H E).env (bodyX P w K mg base N x st f cdv A outer s H E).xe → Room k (bodyX P w K mg base N x st f cdv A outer s H E).A →
      SB (bodyX P w K mg base N x st f cdv A outer s H E) (fun cls d _ H' => E cls d H') (defBody st) mb)
    (hm : ∀ ds S, ds.length = ps.length → RefR S (m ds S) (mb (startD N.length ds) S)) : FnM P w K mg base (k + 1) x ps.length m := by
  obtain ⟨f, fd, h1, F, hbd⟩ := F
  exact ⟨f, fd, ps, h1, F.kp, hbd, fnOk_def F S hb hm⟩
/-- nothing is promised -/
theorem FnM.none {x : Str} {st : Stmt} {N ps : List Str} {k : Nat} (F : IsFn K mg x st ps) (S : FnScope N ps (defScope st)) : FnM P w K mg base k x ps.length (fun _ _ => .stk) := by
  obtain ⟨f, fd, h1, F, hbd⟩ := F
  refine ⟨f, fd, ps, h1, F.kp, hbd, ⟨fun vs H Q E h => h.1, fun A outer s H args us vs Q E hr he hbi hv hsp => ?_⟩⟩
  obtain ⟨_, _, _, _, _, _, h⟩ := hsp
  exact h.elim
end
/-- a def's summary with less told -/
theorem FnM.imp {P : Program} {w : World} {K : PySem.W.Frag} {mg : Str → Option Value} {base : Heap} {k n : Nat} {x : Str} {m m' : List D → List Cell → Res D} (F : FnM P w K mg base k x n m) (h : ∀ ds S, m' ds S = .stk ∨ m' ds S = m ds S) : FnM P w K mg base k x n m' := by
  obtain ⟨f, fd, ps, h1, h2, h3, h4⟩ := F
  refine ⟨f, fd, ps, h1, h2, h3, h4.imp fun vs H Q E ⟨l, μ, S, ds, hs, rl, q⟩ => ⟨l, μ, S, ds, hs, rl, ?_⟩⟩
  rcases h ds S with e | e
  · rw [e] at q; exact q.elim
  · rwa [e] at q
/-! ### the law -/
theorem only_sq {K : PySem.W.Frag} {H : Hp} {a : Addr} {xs : List V} (h : Only H) (q : SqL K H a xs) : SqF K H a xs := by
  rcases q with (q | ⟨o, q⟩) | q
  · rcases h a with z | ⟨o, ys, z⟩
    · rw [z] at q; cases q
    · rw [z] at q; cases q
  · exact .inl ⟨o, q⟩
  · exact .inr q
theorem repL_ints {K : PySem.W.Frag} {μ : Mu} {H : Hp} : ∀ ns : List Int, RepL K μ H (ns.map D.int) (ns.map V.int)
  | [] => .nil
  | n :: ns => .cons (.int n) (repL_ints ns)
/-- what the law's def is to keep -/
def spLaw (K : PySem.W.Frag) : Sp := fun vs H Q _ => ∃ (a : Addr) (ns : List Int), vs = [.ref a] ∧ Only H ∧ SqL K H a (ns.map V.int) ∧ ns.length ≤ 63 ∧ ∀ H', Q (.bl true) H'
theorem law_imp {mg : Str → Option Value} {K : PySem.W.Frag} {m : List D → List Cell → Res D} (h : ∀ ns : List Int, ns.length ≤ 63 → ∃ S, m [.cst (ns.map D.int)] [] = .ok (.bl true) S) : ∀ vs H Q E, spLaw K vs H Q E → spM mg K 1 m vs H Q E := fun vs H Q E ⟨a, ns, e, hO, hq, hl, q⟩ => by
  subst e
  obtain ⟨S, e⟩ := h ns hl
  refine ⟨rfl, [], [], [.cst (ns.map D.int)], ⟨.nil, rfl, fun n c a e _ => by simp at e⟩, .cons (.cst (only_sq hO hq) (repL_ints ns)) .nil, ?_⟩
  rw [e]
  intro v H' μ' u s r
  rw [r.inv_bl]
  exact q H'
theorem hCX {P : Program} {w : World} (H : Hp) (s : Shared) (e : Value) (s' : Shared) (h : L2.CX P w [] H s (fun _ _ _ => False) e s') : False := by
  obtain ⟨_, _, _, _, _, _, _, _, _, _, _, _, z⟩ := h
  exact z.elim
end Fx
namespace Fx
open PySem PySem.Spec PyProof.Rows L2
def cs (s : String) : List Nat := (Str.ofString s).cps.toList
theorem len_nil : ∀ sd S ds S', mNil sd S = .ok ds S' → ds.length = 0 := fun sd S ds S' h => by cases h; rfl
theorem len_cons {m : ME} {r : MA} {n : Nat} (h : ∀ sd S ds S', r sd S = .ok ds S' → ds.length = n) : ∀ sd S ds S', mCons m r sd S = .ok ds S' → ds.length = n + 1 := fun sd S ds S' e => by
  unfold mCons at e
  generalize m sd S = x at e
  cases x with
  | ok d S1 =>
    have e : (r sd S1).bind (fun ds S2 => .ok (d :: ds) S2) = .ok ds S' := e
    generalize hr : r sd S1 = y at e
    cases y with
    | ok es S2 => cases e; rw [List.length_cons, h _ _ _ _ hr]
    | exc _ _ => cases e
    | stk => cases e
  | exc _ _ => cases e
  | stk => cases e
/-- how often a while turns at most -/
def whN : Nat := 2 ^ 64
theorem se_globI {X : Cx} {W : WX} {x : Str} {i : Int} {pos : Pos} (h : ∃ t, X.mg x = some (.int i t)) (hg : Gl X x := by rfl) (hd : (x == ("__debug__" : Str)) = false := by decide) : SE X W (.Name x pos) (mC (.int i)) := by
  obtain ⟨t, h⟩ := h
  exact se_glob hg h (v := .int i) ⟨t, rfl⟩ (fun _ _ => .int i) hd
def mLst' (m : MA) : ML := fun sd S => (m sd S).bind fun ds S1 => if ds.length ≤ sizeLine then .ok ds S1 else .stk
theorem isFn_mk {K : PySem.W.Frag} {h : Heap} {mg : Str → Option Value} {x : Str} {st : Stmt} {ps : List Str} {f : Addr} {oc : Value} {od an : Option Addr} {osl : Array (Option Value)} {kV doc pm cdv ct : Value} (X : K.In h) (G : h.Ns mainGlobals mg)
    (a : PySem.W.nsIn K mainGlobals x = some (some (.ref f))) (l : K.lookup f = some ⟨oc, od, .func (PySem.W.fnOf x x (defArgs st) (defBody st) (defScope st) .none kV doc pm an cdv ct), osl⟩)
    (c : PySem.W.codeIn K cdv x = true) (k : PySem.W.keepIn K (.ref f) = true)
    (hb : ∀ (kV doc pm : Value) (an : Option Addr) (cdv ct : Value) (us : List Value), us.length = ps.length → bindArgs (PySem.W.fnOf x x (defArgs st) (defBody st) (defScope st) .none kV doc pm an cdv ct) ⟨us, []⟩ = pure (ps.zip us)) : IsFn K mg x st ps :=
  ⟨f, _, PySem.W.mg_of X G a, fun_mk l c k, (fun_mk l c k).binds hb⟩
end Fx

namespace Fx
open PySem PySem.Spec PyProof.Rows L2

/-! ### the mirrors, evaluated -/
section
variable {α β : Type} {sd sd1 sd2 : Sl} {S S1 S2 : List Cell}
@[simp] theorem bind_ok (a : α) (f : α → List Cell → Res β) : (Res.ok a S).bind f = f a S := (rfl)
@[simp] theorem bind_exc (x : Ex) (f : α → List Cell → Res β) : (Res.exc x S).bind f = .exc x S := (rfl)
@[simp] theorem bind_stk (f : α → List Cell → Res β) : (Res.stk : Res α).bind f = .stk := (rfl)
@[simp] theorem thenS_ok (a : α) (f : α → List Cell → ResS) : (Res.ok a S).thenS sd f = f a S := (rfl)
@[simp] theorem thenS_exc (x : Ex) (f : α → List Cell → ResS) : (Res.exc x S : Res α).thenS sd f = .exc x sd S := (rfl)
@[simp] theorem thenS_stk (f : α → List Cell → ResS) : (Res.stk : Res α).thenS sd f = .stk := (rfl)
@[simp] theorem mC_ev (d : D) : mC d sd S = .ok d S := (rfl)
@[simp] theorem mVar_ev (i : Nat) : mVar i sd S = match sd[i]? with | some (some d) => .ok d S | _ => .stk := (rfl)
@[simp] theorem mNil_ev : mNil sd S = .ok [] S := (rfl)
@[simp] theorem mCons_ev (m : ME) (r : MA) : mCons m r sd S = (m sd S).bind fun d S1 => (r sd S1).bind fun ds S2 => .ok (d :: ds) S2 := (rfl)
@[simp] theorem mTup_ev (m : MA) : mTup m sd S = (m sd S).bind fun ds S1 => if ds.length ≤ sizeLine then .ok (.tup ds) S1 else .stk := (rfl)
@[simp] theorem mLst_ev (m : MA) : mLst m sd S = (m sd S).bind fun ds S1 => if ds.length ≤ sizeLine then .ok (.loc S1.length) (S1 ++ [.lst ds]) else .stk := (rfl)
@[simp] theorem mLst'_ev (m : MA) : mLst' m sd S = (m sd S).bind fun ds S1 => if ds.length ≤ sizeLine then .ok ds S1 else .stk := (rfl)
@[simp] theorem mBin_ev (o : O2) (a b : ME) : mBin o a b sd S = (a sd S).bind fun d S1 => (b sd S1).bind fun e S2 => o d e S2 := (rfl)
@[simp] theorem mNeg_ev (m : ME) : mNeg m sd S = (m sd S).bind fun d S1 => match d with | .int i => .ok (.int (-i)) S1 | _ => .stk := (rfl)
@[simp] theorem mCall_ev (f : List D → List Cell → Res D) (a : MA) : mCall f a sd S = (a sd S).bind fun ds S1 => f ds S1 := (rfl)
@[simp] theorem mB_ev (f : OC) (a : MA) : mB f a sd S = (a sd S).bind fun ds S1 => f ds S1 := (rfl)
@[simp] theorem mF_ev (f : OF) (a : ML) : mF f a sd S = (a sd S).bind fun ds S1 => f ds S1 := (rfl)
@[simp] theorem mFresh_ev (m : ML) : mFresh m sd S = (m sd S).bind fun ds S1 => .ok (.loc S1.length) (S1 ++ [.lst ds]) := (rfl)
@[simp] theorem mTru_ev (m : ME) : mTru m sd S = (m sd S).bind fun d S1 => optR (truD S1 d) S1 := (rfl)
@[simp] theorem mTst_ev (m : ME) : mTst m sd S = (m sd S).bind fun d S1 => optR (blD d) S1 := (rfl)
@[simp] theorem mChain_ev (o o' : O2) (a b c : ME) : mChain o o' a b c sd S = (a sd S).bind fun d S1 => (b sd S1).bind fun e S2 => (o d e S2).bind fun z S3 => match z with
  | .bl k => if k = true then (c sd S3).bind fun f S4 => o' e f S4 else .ok (.bl false) S3
  | _ => .stk := (rfl)
@[simp] theorem mAnd_ev (a b : MT) : mAnd a b sd S = (a sd S).bind fun c S1 => if c = true then b sd S1 else .ok false S1 := (rfl)
@[simp] theorem mOr_ev (a b : MT) : mOr a b sd S = (a sd S).bind fun c S1 => if c = true then .ok true S1 else b sd S1 := (rfl)
@[simp] theorem mNot_ev (a : MT) : mNot a sd S = (a sd S).bind fun c S1 => .ok (!c) S1 := (rfl)
@[simp] theorem mYes_ev : mYes sd S = .ok true S := (rfl)
@[simp] theorem mAndV_ev (a b : ME) : mAndV a b sd S = (a sd S).bind fun d S1 => match truD S1 d with | some true => b sd S1 | some false => .ok d S1 | none => .stk := (rfl)
@[simp] theorem mOrV_ev (a b : ME) : mOrV a b sd S = (a sd S).bind fun d S1 => match truD S1 d with | some true => .ok d S1 | some false => b sd S1 | none => .stk := (rfl)
@[simp] theorem mNotV_ev (a : ME) : mNotV a sd S = (a sd S).bind fun d S1 => match truD S1 d with | some b => .ok (.bl (!b)) S1 | none => .stk := (rfl)
@[simp] theorem mIfE_ev (t : MT) (a b : ME) : mIfE t a b sd S = (t sd S).bind fun c S1 => if c = true then a sd S1 else b sd S1 := (rfl)
@[simp] theorem mIsi_ev (T : String) (m : ME) : mIsi T m sd S = (m sd S).bind fun d S1 => match isiD S1 T d with | some b => .ok (.bl b) S1 | none => .stk := (rfl)
@[simp] theorem mNoPart_ev : mNoPart sd S = .ok none S := (rfl)
@[simp] theorem mPart_ev (m : ME) : mPart m sd S = (m sd S).bind fun d S1 => match intD d with | some i => .ok (some i) S1 | none => .stk := (rfl)
@[simp] theorem mSlice_ev (m : ME) (lo hi : MO) : mSlice m lo hi sd S = (m sd S).bind fun d S1 => (lo sd S1).bind fun l S2 => (hi sd S2).bind fun h S3 => oSl d l h S3 := (rfl)
@[simp] theorem mNext_ev : mNext sd S = .nx sd S := (rfl)
@[simp] theorem mBreak_ev : mBreak sd S = .bk sd S := (rfl)
@[simp] theorem mCont_ev : mCont sd S = .ct sd S := (rfl)
@[simp] theorem mSeq_ev (a b : MS) : mSeq a b sd S = match a sd S with
  | .nx sd1 S1 => b sd1 S1
  | .rt d S1 => .rt d S1
  | .bk sd1 S1 => .bk sd1 S1
  | .ct sd1 S1 => .ct sd1 S1
  | .exc x sd1 S1 => .exc x sd1 S1
  | .stk => .stk := (rfl)
@[simp] theorem mRet_ev (m : ME) : mRet m sd S = (m sd S).thenS sd fun d S1 => .rt d S1 := (rfl)
@[simp] theorem mRetN_ev : mRetN sd S = .rt .non S := (rfl)
@[simp] theorem mExpr_ev (m : ME) : mExpr m sd S = (m sd S).thenS sd fun _ S1 => .nx sd S1 := (rfl)
@[simp] theorem mIf_ev (t : MT) (a b : MS) : mIf t a b sd S = (t sd S).thenS sd fun c S1 => if c = true then a sd S1 else b sd S1 := (rfl)
@[simp] theorem mSet_ev (i : Nat) (m : ME) : mSet i m sd S = (m sd S).thenS sd fun d S1 => .nx (sd.set i (some d)) S1 := (rfl)
@[simp] theorem mAsg_ev (g : MG) (m : ME) : mAsg g m sd S = (m sd S).thenS sd fun d S1 => (g d sd S1).thenS sd fun sd2 S2 => .nx sd2 S2 := (rfl)
@[simp] theorem mAug_ev (i : Nat) (o : O2) (m : ME) : mAug i o m sd S = (mVar i sd S).thenS sd fun d S1 => (m sd S1).thenS sd fun e S2 => (o d e S2).thenS sd fun f S3 => .nx (sd.set i (some f)) S3 := (rfl)
@[simp] theorem gN_ev (i : Nat) (d : D) : gN i d sd S = .ok (sd.set i (some d)) S := (rfl)
@[simp] theorem gTupD_ev (n : Nat) (g : MGs) (d : D) : gTupD n g d sd S = match d with | .tup ds => if ds.length = n then g ds sd S else .stk | _ => .stk := (rfl)
@[simp] theorem gsNil_ev : gsNil [] sd S = .ok sd S := (rfl)
@[simp] theorem gsCons_ev (g : MG) (r : MGs) (d : D) (ds : List D) : gsCons g r (d :: ds) sd S = (g d sd S).bind fun sd1 S1 => r ds sd1 S1 := (rfl)
@[simp] theorem gSubL_ev (o i : ME) (v : D) : gSubL o i v sd S = (o sd S).bind fun d S1 => (i sd S1).bind fun e S2 => match d, e with
  | .loc n, .int k => match mlst S2 n with
    | some xs => match ixN xs.length k with
      | some j => .ok sd (S2.set n (.lst (xs.set j v)))
      | none => .stk
    | none => .stk
  | _, _ => .stk := (rfl)
@[simp] theorem mAppend_ev (o a : ME) : mAppend o a sd S = (o sd S).bind fun d S1 => match d with
  | .loc n => match mlst S1 n with
    | none => .stk
    | some _ => (a sd S1).bind fun e S2 => match mlst S2 n with
      | some xs => if xs.length < sizeLine then .ok .non (S2.set n (.lst (xs ++ [e]))) else .stk
      | none => .stk
  | _ => .stk := (rfl)
@[simp] theorem mPar_ev (i j : Nat) (a : MA) : mPar i j a sd S = match a sd S with
  | .ok [d, e] S1 => .nx ((sd.set i (some d)).set j (some e)) S1
  | .exc x S1 => .exc x sd S1
  | _ => .stk := (rfl)
@[simp] theorem mPar3_ev (i j l : Nat) (a : MA) : mPar3 i j l a sd S = match a sd S with
  | .ok [d, e, f] S1 => .nx (((sd.set i (some d)).set j (some e)).set l (some f)) S1
  | .exc x S1 => .exc x sd S1
  | _ => .stk := (rfl)
@[simp] theorem mSeqI_ev (m : ME) : mSeqI m sd S = (m sd S).bind fun d S1 => match d with
  | .tup xs => .ok ⟨xs, none⟩ S1
  | .cst xs => .ok ⟨xs, none⟩ S1
  | .loc n => match cellL S1 n with
    | some xs => .ok ⟨xs, some n⟩ S1
    | none => .stk
  | .str x => .ok ⟨x.map fun c => .str [c], none⟩ S1
  | _ => .stk := (rfl)
@[simp] theorem mRng1_ev (a : MA) : mRng1 a sd S = (a sd S).bind fun ds S1 => match ds with
  | [.int j] => if c62 j then .ok ⟨rngD 0 j.toNat, none⟩ S1 else .stk
  | _ => .stk := (rfl)
@[simp] theorem mRng2_ev (a : MA) : mRng2 a sd S = (a sd S).bind fun ds S1 => match ds with
  | [.int i, .int j] => if c62 i && c62 j then .ok ⟨rngD i (j - i).toNat, none⟩ S1 else .stk
  | _ => .stk := (rfl)
@[simp] theorem mFor_ev (mi : MI) (g : MG) (b : MS) : mFor mi g b sd S = (mi sd S).thenS sd fun it S1 => forGo it g b it.xs sd S1 := (rfl)
@[simp] theorem mLc_ev (mi : MI) (ws : List Nat) (g : MG) (t : MT) (e : ME) : mLc mi ws g t e sd S = (mi sd S).bind fun it S1 => lcGo it ws g t e sd it.xs [] S1 := (rfl)
@[simp] theorem mWhile_ev (n : Nat) (t : MT) (b : MS) : mWhile n t b sd S = whGo t b n sd S := (rfl)
@[simp] theorem optR_some (a : α) : optR (some a) S = .ok a S := (rfl)
@[simp] theorem optR_none : optR (none : Option α) S = .stk := (rfl)
@[simp] theorem blD_bl (b : Bool) : blD (.bl b) = some b := (rfl)
@[simp] theorem intD_int (i : Int) : intD (.int i) = some i := (rfl)
@[simp] theorem truD_bl (b : Bool) : truD S (.bl b) = some b := (rfl)
@[simp] theorem truD_int (b : Int) : truD S (.int b) = some (b != 0) := (rfl)
@[simp] theorem truD_non : truD S .non = some false := (rfl)
@[simp] theorem truD_tup (l : List D) : truD S (.tup l) = some (!l.isEmpty) := (rfl)
@[simp] theorem seqD_tup (l : List D) : seqD S (.tup l) = some l := (rfl)
@[simp] theorem seqD_cst (l : List D) : seqD S (.cst l) = some l := (rfl)
@[simp] theorem seqD_loc (n : Nat) : seqD S (.loc n) = cellL S n := (rfl)
@[simp] theorem lstD_loc (n : Nat) : lstD S (.loc n) = cellL S n := (rfl)
@[simp] theorem lstD_cst (l : List D) : lstD S (.cst l) = some l := (rfl)
@[simp] theorem isNonD_non : isNonD .non = true := (rfl)
@[simp] theorem isNonD_bl (b : Bool) : isNonD (.bl b) = false := (rfl)
@[simp] theorem isNonD_int (b : Int) : isNonD (.int b) = false := (rfl)
@[simp] theorem isNonD_str (b : List Nat) : isNonD (.str b) = false := (rfl)
@[simp] theorem isNonD_tup (b : List D) : isNonD (.tup b) = false := (rfl)
@[simp] theorem isNonD_cst (b : List D) : isNonD (.cst b) = false := (rfl)
@[simp] theorem isNonD_loc (b : Nat) : isNonD (.loc b) = false := (rfl)
@[simp] theorem tyD_non : tyD S .non = some "NoneType" := (rfl)
@[simp] theorem tyD_bl (b : Bool) : tyD S (.bl b) = some "bool" := (rfl)
@[simp] theorem tyD_int (b : Int) : tyD S (.int b) = some "int" := (rfl)
@[simp] theorem tyD_str (b : List Nat) : tyD S (.str b) = some "str" := (rfl)
@[simp] theorem tyD_tup (b : List D) : tyD S (.tup b) = some "tuple" := (rfl)
@[simp] theorem tyD_cst (b : List D) : tyD S (.cst b) = some "list" := (rfl)
@[simp] theorem tyD_loc (b : Nat) : tyD S (.loc b) = match S[b]? with | some (.lst _) => some "list" | some (.dic _) => some "dict" | _ => none := (rfl)
theorem tyD_cell {n : Nat} {xs : List D} (h : cellL S n = some xs) : tyD S (.loc n) = some "list" := by
  unfold cellL at h
  unfold tyD
  simp only
  split at h
  · rename_i ys e
    rw [e]
  · cases h
theorem kb {a b : String} {r : Bool} (h : kitB a b = some r) : (some a).bind (fun t => kitB t b) = some r := h
@[simp] theorem isi_non_int : isiD S "int" .non = some false := kb (a := "NoneType") (by decide +kernel)
@[simp] theorem isi_non_bool : isiD S "bool" .non = some false := kb (a := "NoneType") (by decide +kernel)
@[simp] theorem isi_non_str : isiD S "str" .non = some false := kb (a := "NoneType") (by decide +kernel)
@[simp] theorem isi_non_tuple : isiD S "tuple" .non = some false := kb (a := "NoneType") (by decide +kernel)
@[simp] theorem isi_non_list : isiD S "list" .non = some false := kb (a := "NoneType") (by decide +kernel)
@[simp] theorem isi_bl_int (b : Bool) : isiD S "int" (.bl b) = some true := kb (by decide +kernel)
@[simp] theorem isi_bl_bool (b : Bool) : isiD S "bool" (.bl b) = some true := kb (by decide +kernel)
@[simp] theorem isi_bl_str (b : Bool) : isiD S "str" (.bl b) = some false := kb (by decide +kernel)
@[simp] theorem isi_bl_tuple (b : Bool) : isiD S "tuple" (.bl b) = some false := kb (by decide +kernel)
@[simp] theorem isi_bl_list (b : Bool) : isiD S "list" (.bl b) = some false := kb (by decide +kernel)
@[simp] theorem isi_int_int (b : Int) : isiD S "int" (.int b) = some true := kb (by decide +kernel)
@[simp] theorem isi_int_bool (b : Int) : isiD S "bool" (.int b) = some false := kb (by decide +kernel)
@[simp] theorem isi_int_str (b : Int) : isiD S "str" (.int b) = some false := kb (by decide +kernel)
@[simp] theorem isi_int_tuple (b : Int) : isiD S "tuple" (.int b) = some false := kb (by decide +kernel)
@[simp] theorem isi_int_list (b : Int) : isiD S "list" (.int b) = some false := kb (by decide +kernel)
@[simp] theorem isi_str_int (b : List Nat) : isiD S "int" (.str b) = some false := kb (by decide +kernel)
@[simp] theorem isi_str_bool (b : List Nat) : isiD S "bool" (.str b) = some false := kb (by decide +kernel)
@[simp] theorem isi_str_str (b : List Nat) : isiD S "str" (.str b) = some true := kb (by decide +kernel)
@[simp] theorem isi_str_tuple (b : List Nat) : isiD S "tuple" (.str b) = some false := kb (by decide +kernel)
@[simp] theorem isi_str_list (b : List Nat) : isiD S "list" (.str b) = some false := kb (by decide +kernel)
@[simp] theorem isi_tup_int (b : List D) : isiD S "int" (.tup b) = some false := kb (by decide +kernel)
@[simp] theorem isi_tup_bool (b : List D) : isiD S "bool" (.tup b) = some false := kb (by decide +kernel)
@[simp] theorem isi_tup_str (b : List D) : isiD S "str" (.tup b) = some false := kb (by decide +kernel)
@[simp] theorem isi_tup_tuple (b : List D) : isiD S "tuple" (.tup b) = some true := kb (by decide +kernel)
@[simp] theorem isi_tup_list (b : List D) : isiD S "list" (.tup b) = some false := kb (by decide +kernel)
@[simp] theorem isi_cst_int (b : List D) : isiD S "int" (.cst b) = some false := kb (by decide +kernel)
@[simp] theorem isi_cst_bool (b : List D) : isiD S "bool" (.cst b) = some false := kb (by decide +kernel)
@[simp] theorem isi_cst_str (b : List D) : isiD S "str" (.cst b) = some false := kb (by decide +kernel)
@[simp] theorem isi_cst_tuple (b : List D) : isiD S "tuple" (.cst b) = some false := kb (by decide +kernel)
@[simp] theorem isi_cst_list (b : List D) : isiD S "list" (.cst b) = some true := kb (by decide +kernel)
theorem kl {n : Nat} {xs : List D} {b : String} {r : Bool} (h : kitB "list" b = some r) (hc : cellL S n = some xs) : isiD S b (.loc n) = some r := by
  unfold isiD
  rw [tyD_cell hc]
  exact h
theorem isi_loc_int {n : Nat} {xs : List D} (h : cellL S n = some xs) : isiD S "int" (.loc n) = some false := kl (by decide +kernel) h
theorem isi_loc_bool {n : Nat} {xs : List D} (h : cellL S n = some xs) : isiD S "bool" (.loc n) = some false := kl (by decide +kernel) h
theorem isi_loc_str {n : Nat} {xs : List D} (h : cellL S n = some xs) : isiD S "str" (.loc n) = some false := kl (by decide +kernel) h
theorem isi_loc_tuple {n : Nat} {xs : List D} (h : cellL S n = some xs) : isiD S "tuple" (.loc n) = some false := kl (by decide +kernel) h
theorem isi_loc_list {n : Nat} {xs : List D} (h : cellL S n = some xs) : isiD S "list" (.loc n) = some true := kl (by decide +kernel) h
@[simp] theorem oLen_tup (xs : List D) : oLen [.tup xs] S = .ok (.int xs.length) S := (rfl)
@[simp] theorem oLen_cst (xs : List D) : oLen [.cst xs] S = .ok (.int xs.length) S := (rfl)
@[simp] theorem oLen_loc (n : Nat) : oLen [.loc n] S = match cellL S n with | some xs => .ok (.int xs.length) S | none => .stk := (rfl)
@[simp] theorem oTupF_ev (ds : List D) : oTupF ds S = .ok (.tup ds) S := (rfl)
@[simp] theorem oAllF_ev (ds : List D) : oAllF ds S = match blsD ds with | some bs => .ok (.bl (bs.all id)) S | none => .stk := (rfl)
@[simp] theorem oAnyF_ev (ds : List D) : oAnyF ds S = match blsD ds with | some bs => .ok (.bl (bs.any id)) S | none => .stk := (rfl)
@[simp] theorem oSumF_ev (ds : List D) : oSumF ds S = match intsD ds with | some bs => .ok (.int bs.sum) S | none => .stk := (rfl)
@[simp] theorem oLenF_ev (ds : List D) : oLenF ds S = .ok (.int ds.length) S := (rfl)
@[simp] theorem oInt_ev (c : Int → Int → Bool) (g : Int → Int → D) (i j : Int) : oInt c g (.int i) (.int j) S = if c i j then .ok (g i j) S else .stk := (rfl)
@[simp] theorem oAdd_int (i j : Int) : oAdd (.int i) (.int j) S = .ok (.int (i + j)) S := (rfl)
@[simp] theorem oAdd_tup (x y : List D) : oAdd (.tup x) (.tup y) S = if x.length + y.length ≤ sizeLine then .ok (.tup (x ++ y)) S else .stk := (rfl)
@[simp] theorem oAdd_str (x y : List Nat) : oAdd (.str x) (.str y) S = if x.length + y.length ≤ sizeLine then .ok (.str (x ++ y)) S else .stk := (rfl)
@[simp] theorem oAdd_loc (n m : Nat) : oAdd (.loc n) (.loc m) S = match mlst S n, mlst S m with
    | some x, some y => if x.length + y.length ≤ sizeLine then .ok (.loc S.length) (S ++ [.lst (x ++ y)]) else .stk
    | _, _ => .stk := (rfl)
@[simp] theorem oMulL_int (i j : Int) : oMulL (.int i) (.int j) S = if cMul i j then .ok (.int (i * j)) S else .stk := (rfl)
@[simp] theorem oMulL_loc (n : Nat) (k : Int) : oMulL (.loc n) (.int k) S = match mlst S n with
    | some x => if -(2 ^ 63) ≤ k ∧ k < 2 ^ 63 ∧ x.length * k.toNat ≤ sizeLine then .ok (.loc S.length) (S ++ [.lst (List.replicate k.toNat x).flatten]) else .stk
    | _ => .stk := (rfl)
@[simp] theorem oSl_tup (x : List D) (lo hi : Option Int) : oSl (.tup x) lo hi S = .ok (.tup (cutG x lo hi)) S := (rfl)
@[simp] theorem oIx_tup (xs : List D) (i : Int) : oIx (.tup xs) (.int i) S = optR (atI xs i) S := (rfl)
@[simp] theorem oIx_cst (xs : List D) (i : Int) : oIx (.cst xs) (.int i) S = optR (atI xs i) S := (rfl)
@[simp] theorem oIx_loc (n : Nat) (i : Int) : oIx (.loc n) (.int i) S = optR ((cellL S n).bind fun xs => atI xs i) S := (rfl)
@[simp] theorem oListC_seq (d : D) : oListC [d] S = match seqD S d with | some xs => .ok (.loc S.length) (S ++ [.lst xs]) | none => .stk := (rfl)
@[simp] theorem oTupC_seq (d : D) : oTupC [d] S = match seqD S d with | some xs => .ok (.tup xs) S | none => .stk := (rfl)
@[simp] theorem oSum_seq (d : D) : oSum [d] S = match (seqD S d).bind intsD with | some ns => .ok (.int ns.sum) S | none => .stk := (rfl)
@[simp] theorem oAbs_int (i : Int) : oAbs [.int i] S = .ok (.int (if i < 0 then -i else i)) S := (rfl)
@[simp] theorem oIntC_int (i : Int) : oIntC [.int i] S = .ok (.int i) S := (rfl)
@[simp] theorem oLt_int (i j : Int) : oLt (.int i) (.int j) S = .ok (.bl (decide (i < j))) S := (rfl)
@[simp] theorem oLe_int (i j : Int) : oLe (.int i) (.int j) S = .ok (.bl (decide (i ≤ j))) S := (rfl)
@[simp] theorem oIsN_non (d : D) : oIsN d .non S = .ok (.bl (isNonD d)) S := (rfl)
@[simp] theorem oNotN_non (d : D) : oNotN d .non S = .ok (.bl (!isNonD d)) S := (rfl)
@[simp] theorem pyD_int (n : Nat) (i : Int) : pyD n S (.int i) = some (.int i) := by cases n <;> rfl
@[simp] theorem pyD_bl (n : Nat) (i : Bool) : pyD n S (.bl i) = some (.bool i) := by cases n <;> rfl
@[simp] theorem pyD_non (n : Nat) : pyD n S .non = some .none := by cases n <;> rfl
@[simp] theorem pyD_str (n : Nat) (x : List Nat) : pyD n S (.str x) = if x.all (· < 0x110000) then some (.str ⟨x.toArray⟩) else none := by cases n <;> rfl
@[simp] theorem pyD_tup (n : Nat) (l : List D) : pyD (n + 1) S (.tup l) = (l.mapM (pyD n S)).map .tuple := (rfl)
@[simp] theorem pyD_cst (n : Nat) (l : List D) : pyD (n + 1) S (.cst l) = (l.mapM (pyD n S)).map .list := (rfl)
@[simp] theorem pyD_loc (n : Nat) (k : Nat) : pyD (n + 1) S (.loc k) = (cellL S k).bind fun xs => (xs.mapM (pyD n S)).map .list := (rfl)
@[simp] theorem oEq_int (i j : Int) : oEq (.int i) (.int j) S = .ok (.bl (i == j)) S := by simp [oEq, eqD, PyData.eqv]
@[simp] theorem oEq_bl (i j : Bool) : oEq (.bl i) (.bl j) S = .ok (.bl (i == j)) S := by simp [oEq, eqD, PyData.eqv]
@[simp] theorem oNe_int (i j : Int) : oNe (.int i) (.int j) S = .ok (.bl (i != j)) S := by simp [oNe, eqD, PyData.eqv, bne]
@[simp] theorem okAt_none (xs : List D) : (⟨xs, none⟩ : ItD).okAt S ↔ True := Iff.rfl
/-! the store -/
@[simp] theorem cellL_ev (n : Nat) : cellL S n = match S[n]? with | some (.lst xs) => some xs | _ => none := (rfl)
@[simp] theorem mlst_ev (n : Nat) : mlst S n = match S[n]? with | some (.lst xs) => some xs | _ => none := (rfl)
end

/-! ### loops -/
section
variable {it : ItD} {g : MG} {b : MS} {t : MT} {e : ME} {ws : List Nat}
/-- a for, by what holds of the items that are left, the slots and the store -/
theorem forGo_ind (J : List D → Sl → List Cell → Prop) (R : ResS → Prop) (hok : ∀ r sd S, J r sd S → it.okAt S) (hnil : ∀ sd S, J [] sd S → R (.nx sd S))
    (step : ∀ x r sd S, J (x :: r) sd S → ∃ sd1 S1, g x sd S = .ok sd1 S1 ∧ (match b sd1 S1 with
      | .nx sd2 S2 => J r sd2 S2 | .ct sd2 S2 => J r sd2 S2 | .bk sd2 S2 => R (.nx sd2 S2) | .rt d S2 => R (.rt d S2) | .exc x sd2 S2 => R (.exc x sd2 S2) | .stk => False)) :
    ∀ xs sd S, J xs sd S → R (forGo it g b xs sd S)
  | [], sd, S, h => by
    unfold forGo
    rw [if_pos (hok _ _ _ h)]
    exact hnil sd S h
  | x :: r, sd, S, h => by
    unfold forGo
    rw [if_pos (hok _ _ _ h)]
    obtain ⟨sd1, S1, e1, h1⟩ := step x r sd S h
    rw [e1]
    simp only
    generalize b sd1 S1 = rb at h1
    cases rb with
    | nx sd2 S2 => exact forGo_ind J R hok hnil step r sd2 S2 h1
    | ct sd2 S2 => exact forGo_ind J R hok hnil step r sd2 S2 h1
    | bk sd2 S2 => exact h1
    | rt d S2 => exact h1
    | exc x sd2 S2 => exact h1
    | stk => exact h1.elim
/-- .. that runs through, its end by the invariant -/
theorem forGo_run (J : List D → Sl → List Cell → Prop) (hok : ∀ r sd S, J r sd S → it.okAt S)
    (step : ∀ x r sd S, J (x :: r) sd S → ∃ sd1 S1 sd2 S2, g x sd S = .ok sd1 S1 ∧ b sd1 S1 = .nx sd2 S2 ∧ J r sd2 S2) {xs : List D} {sd : Sl} {S : List Cell} (h : J xs sd S) : ∃ sd' S', forGo it g b xs sd S = .nx sd' S' ∧ J [] sd' S' :=
  forGo_ind J (fun r => ∃ sd' S', r = .nx sd' S' ∧ J [] sd' S') hok (fun sd S h => ⟨sd, S, rfl, h⟩) (fun x r sd S h => by
    obtain ⟨sd1, S1, sd2, S2, e1, e2, h2⟩ := step x r sd S h
    refine ⟨sd1, S1, e1, ?_⟩
    rw [e2]
    exact h2) xs sd S h
/-- a while, by an invariant and a measure -/
theorem whGo_ind (J : Sl → List Cell → Prop) (μ : Sl → List Cell → Nat) (R : ResS → Prop)
    (step : ∀ sd S, J sd S → ∃ c S1, t sd S = .ok c S1 ∧ (if c = true then (match b sd S1 with
      | .nx sd2 S2 => J sd2 S2 ∧ μ sd2 S2 < μ sd S | .ct sd2 S2 => J sd2 S2 ∧ μ sd2 S2 < μ sd S | .bk sd2 S2 => R (.nx sd2 S2) | .rt d S2 => R (.rt d S2) | .exc x sd2 S2 => R (.exc x sd2 S2) | .stk => False) else R (.nx sd S1))) :
    ∀ n sd S, J sd S → μ sd S < n → R (whGo t b n sd S)
  | 0, sd, S, h, hn => absurd hn (Nat.not_lt_zero _)
  | n + 1, sd, S, h, hn => by
    obtain ⟨c, S1, e1, h1⟩ := step sd S h
    unfold whGo
    rw [e1, thenS_ok]
    cases c with
    | false => exact h1
    | true =>
      rw [if_pos rfl] at h1 ⊢
      generalize b sd S1 = rb at h1
      cases rb with
      | nx sd2 S2 => exact whGo_ind J μ R step n sd2 S2 h1.1 (by omega)
      | ct sd2 S2 => exact whGo_ind J μ R step n sd2 S2 h1.1 (by omega)
      | bk sd2 S2 => exact h1
      | rt d S2 => exact h1
      | exc x sd2 S2 => exact h1
      | stk => exact h1.elim
/-- a comprehension, by what holds of the items left, the list so far and the store -/
theorem lcGo_run {sd : Sl} (J : List D → List D → List Cell → Prop) (hok : ∀ r acc S, J r acc S → it.okAt S)
    (step : ∀ x r acc S, J (x :: r) acc S → ∃ sd1 S1 c S2, g x (wipeD sd ws) S = .ok sd1 S1 ∧ t sd1 S1 = .ok c S2 ∧ (if c = true then ∃ y S3, e sd1 S2 = .ok y S3 ∧ acc.length < sizeLine ∧ J r (acc ++ [y]) S3 else J r acc S2)) :
    ∀ xs acc S, J xs acc S → ∃ acc' S', lcGo it ws g t e sd xs acc S = .ok acc' S' ∧ J [] acc' S'
  | [], acc, S, h => by
    unfold lcGo
    rw [if_pos (hok _ _ _ h)]
    exact ⟨acc, S, rfl, h⟩
  | x :: r, acc, S, h => by
    unfold lcGo
    rw [if_pos (hok _ _ _ h)]
    obtain ⟨sd1, S1, c, S2, e1, e2, h1⟩ := step x r acc S h
    rw [e1]
    simp only [e2]
    cases c with
    | true =>
      rw [if_pos rfl] at h1 ⊢
      obtain ⟨y, S3, e3, hz, h3⟩ := h1
      rw [e3]
      simp only [hz, if_true]
      exact lcGo_run J hok step r _ S3 h3
    | false =>
      rw [if_neg Bool.false_ne_true] at h1 ⊢
      exact lcGo_run J hok step r _ S2 h1
/-- .. that maps, the store staying as it is -/
theorem lcGo_map {sd : Sl} {S : List Cell} (f : D → D) (hok : it.okAt S) : ∀ (xs acc : List D), (∀ x ∈ xs, ∃ sd1, g x (wipeD sd ws) S = .ok sd1 S ∧ t sd1 S = .ok true S ∧ e sd1 S = .ok (f x) S) → acc.length + xs.length ≤ sizeLine →
    lcGo it ws g t e sd xs acc S = .ok (acc ++ xs.map f) S
  | [], acc, _, _ => by
    unfold lcGo
    rw [if_pos hok]
    simp
  | x :: r, acc, h, hz => by
    unfold lcGo
    rw [if_pos hok]
    obtain ⟨sd1, e1, e2, e3⟩ := h x (by simp)
    rw [List.length_cons] at hz
    simp only [e1, e2, e3, if_true, if_pos (show acc.length < sizeLine by omega)]
    rw [lcGo_map f hok r (acc ++ [f x]) (fun y hy => h y (by simp [hy])) (by simp; omega)]
    simp
/-- .. with a test -/
theorem lcGo_filter {sd : Sl} {S : List Cell} (p : D → Bool) (f : D → D) (hok : it.okAt S) : ∀ (xs acc : List D), (∀ x ∈ xs, ∃ sd1, g x (wipeD sd ws) S = .ok sd1 S ∧ t sd1 S = .ok (p x) S ∧ (p x = true → e sd1 S = .ok (f x) S)) → acc.length + xs.length ≤ sizeLine →
    lcGo it ws g t e sd xs acc S = .ok (acc ++ (xs.filter p).map f) S
  | [], acc, _, _ => by
    unfold lcGo
    rw [if_pos hok]
    simp
  | x :: r, acc, h, hz => by
    unfold lcGo
    rw [if_pos hok]
    obtain ⟨sd1, e1, e2, e3⟩ := h x (by simp)
    rw [List.length_cons] at hz
    cases hp : p x with
    | true =>
      simp only [e1, e2, e3 hp, hp, if_true, if_pos (show acc.length < sizeLine by omega)]
      rw [lcGo_filter p f hok r (acc ++ [f x]) (fun y hy => h y (by simp [hy])) (by simp; omega)]
      simp [hp]
    | false =>
      simp only [e1, e2, hp, Bool.false_eq_true, if_false]
      rw [lcGo_filter p f hok r acc (fun y hy => h y (by simp [hy])) (by omega)]
      simp [hp]
end
/-- a law's own summary: it ends and gives True -/
noncomputable def mLaw (b : MS) (n : Nat) : List D → List Cell → Res D := by
  classical
  exact fun ds S => if S = [] ∧ ∃ S1, b (startD n ds) [] = .rt (.bl true) S1 then .ok (.bl true) [] else .stk
theorem mLaw_ref {b : MS} {n : Nat} (ds : List D) (S : List Cell) : RefR S (mLaw b n ds S) (b (startD n ds) S) := by
  unfold mLaw
  split
  · rename_i h
    obtain ⟨rfl, S1, e⟩ := h
    exact ⟨Nat.le_refl _, (by unfold D.bel; trivial), (fun c hc => .inl hc), S1, .inl (by simpa using e)⟩
  · trivial
theorem mLaw_true {b : MS} {n : Nat} {ds : List D} {S1 : List Cell} (h : b (startD n ds) [] = .rt (.bl true) S1) : ∃ S, mLaw b n ds [] = .ok (.bl true) S := by
  refine ⟨[], ?_⟩
  unfold mLaw
  rw [if_pos ⟨rfl, S1, h⟩]
/-- a def that changes nothing, and hands back data without cells -/
theorem ref_pure {S : List Cell} {d : D} {b : ResS} {junk : List Cell} (hd : d.bel S.length) (h : b = .rt d (S ++ junk)) : RefR S (.ok d S) b :=
  ⟨Nat.le_refl _, hd, fun c hc => .inl hc, junk, .inl h⟩
theorem ref_pure0 {S : List Cell} {d : D} {b : ResS} (hd : d.bel S.length) (h : b = .rt d S) : RefR S (.ok d S) b := ref_pure (junk := []) hd (by simpa using h)
@[simp] theorem bel_int {n : Nat} {i : Int} : D.bel n (.int i) ↔ True := by unfold D.bel; simp
@[simp] theorem bel_bl {n : Nat} {i : Bool} : D.bel n (.bl i) ↔ True := by unfold D.bel; simp
@[simp] theorem bel_non {n : Nat} : D.bel n .non ↔ True := by unfold D.bel; simp
@[simp] theorem bel_str {n : Nat} {i : List Nat} : D.bel n (.str i) ↔ True := by unfold D.bel; simp
@[simp] theorem bel_loc {n k : Nat} : D.bel n (.loc k) ↔ k < n := by unfold D.bel; exact Iff.rfl
@[simp] theorem bel_tup {n : Nat} {l : List D} : D.bel n (.tup l) ↔ D.belL n l := by unfold D.bel; exact Iff.rfl
@[simp] theorem bel_cst {n : Nat} {l : List D} : D.bel n (.cst l) ↔ D.belL n l := by unfold D.bel; exact Iff.rfl
@[simp] theorem belL_nil {n : Nat} : D.belL n [] ↔ True := by unfold D.belL; simp
@[simp] theorem belL_cons {n : Nat} {d : D} {l : List D} : D.belL n (d :: l) ↔ D.bel n d ∧ D.belL n l := by conv => lhs; unfold D.belL
theorem belL_of {n : Nat} : ∀ {l : List D}, (∀ d ∈ l, D.bel n d) → D.belL n l
  | [], _ => by simp
  | d :: l, h => by rw [belL_cons]; exact ⟨h d (by simp), belL_of fun e he => h e (by simp [he])⟩
theorem belL_ints {n : Nat} (l : List Int) : D.belL n (l.map D.int) := belL_of fun d hd => by
  obtain ⟨i, _, rfl⟩ := List.mem_map.mp hd
  simp
theorem intsD_map (ns : List Int) : intsD (ns.map D.int) = some ns := by
  induction ns with
  | nil => rfl
  | cons n ns ih => simp [intsD, ih]
theorem blsD_map (ns : List Bool) : blsD (ns.map D.bl) = some ns := by
  induction ns with
  | nil => rfl
  | cons n ns ih => simp [blsD, ih]
theorem atI_nat' {α : Type} (xs : List α) (j : Nat) : atI xs (j : Int) = xs[j]? := by
  cases h : xs[j]? with
  | some v => exact atI_nat h
  | none =>
    have hl := List.getElem?_eq_none_iff.mp h
    unfold atI ixN
    rw [if_pos (by omega), if_neg (by omega)]
    rfl
@[simp] theorem atI_zero {α : Type} (xs : List α) : atI xs 0 = xs[0]? := atI_nat' xs 0
@[simp] theorem atI_lit {α : Type} (xs : List α) (n : Nat) : atI xs (no_index (OfNat.ofNat n : Int)) = xs[(no_index (OfNat.ofNat n) : Nat)]? := atI_nat' xs n
@[simp] theorem atI_one {α : Type} (xs : List α) : atI xs 1 = xs[1]? := atI_nat' xs 1
@[simp] theorem ixN_zero {n : Nat} : ixN n 0 = if 0 < n then some 0 else none := by
  unfold ixN
  by_cases h : 0 < n
  · simp [h]
  · have : n = 0 := by omega
    subst this; simp
@[simp] theorem ixN_one {n : Nat} : ixN n 1 = if 1 < n then some 1 else none := by
  unfold ixN
  by_cases h : 1 < n
  · rw [if_pos (by omega), if_pos (by omega), if_pos h]; rfl
  · rw [if_pos (by omega), if_neg (by omega), if_neg h]
theorem ixN_nat {n j : Nat} (h : j < n) : ixN n (j : Int) = some j := by
  unfold ixN
  rw [if_pos (by omega), if_pos (by omega)]
  simp
end Fx
namespace Fx
open PySem PySem.Spec PyProof.Rows L2
theorem rngD_length (lo : Int) (n : Nat) : (rngD lo n).length = n := by simp [rngD]
theorem rngD_drop (lo : Int) (n i : Nat) (h : i < n) : (rngD lo n).drop i = .int (lo + (i : Nat)) :: (rngD lo n).drop (i + 1) := by
  rw [List.drop_eq_getElem_cons (by rw [rngD_length]; exact h)]
  congr 1
  simp [rngD]
/-- a for over a range, by an invariant of the turn's number -/
theorem forGo_rng {g : MG} {b : MS} {lo : Int} {n : Nat} (J : Nat → Sl → List Cell → Prop)
    (step : ∀ i sd S, i < n → J i sd S → ∃ sd1 S1 sd2 S2, g (.int (lo + (i : Nat))) sd S = .ok sd1 S1 ∧ b sd1 S1 = .nx sd2 S2 ∧ J (i + 1) sd2 S2) {sd : Sl} {S : List Cell} (h : J 0 sd S) :
    ∃ sd' S', forGo ⟨rngD lo n, none⟩ g b (rngD lo n) sd S = .nx sd' S' ∧ J n sd' S' := by
  obtain ⟨sd', S', e, i, hi, e2, h2⟩ := forGo_run (it := ⟨rngD lo n, none⟩) (g := g) (b := b) (fun xs sd S => ∃ i, i ≤ n ∧ xs = (rngD lo n).drop i ∧ J i sd S) (fun _ _ _ _ => trivial) (fun x r sd S ⟨i, hi, e, h⟩ => by
    by_cases hlt : i < n
    · rw [rngD_drop lo n i hlt] at e
      injection e with e1 e2
      subst e1 e2
      obtain ⟨sd1, S1, sd2, S2, a, b', c⟩ := step i sd S hlt h
      exact ⟨sd1, S1, sd2, S2, a, b', i + 1, hlt, rfl, c⟩
    · have : i = n := by omega
      subst this
      rw [List.drop_of_length_le (by rw [rngD_length]; exact Nat.le_refl _)] at e
      cases e) ⟨0, Nat.zero_le _, rfl, h⟩
  refine ⟨sd', S', e, ?_⟩
  have : i = n := by
    have := congrArg List.length e2
    rw [List.length_drop, rngD_length] at this
    simp at this
    omega
  subst this
  exact h2
/-- a for over items that stay as they are -/
theorem forGo_ix {g : MG} {b : MS} {xs : List D} {gd : Option Nat} (J : Nat → Sl → List Cell → Prop) (hok : ∀ i sd S, J i sd S → (⟨xs, gd⟩ : ItD).okAt S)
    (step : ∀ i x sd S, xs[i]? = some x → J i sd S → ∃ sd1 S1 sd2 S2, g x sd S = .ok sd1 S1 ∧ b sd1 S1 = .nx sd2 S2 ∧ J (i + 1) sd2 S2) {sd : Sl} {S : List Cell} (h : J 0 sd S) :
    ∃ sd' S', forGo ⟨xs, gd⟩ g b xs sd S = .nx sd' S' ∧ J xs.length sd' S' := by
  obtain ⟨sd', S', e, i, hi, e2, h2⟩ := forGo_run (it := ⟨xs, gd⟩) (g := g) (b := b) (fun ys sd S => ∃ i, i ≤ xs.length ∧ ys = xs.drop i ∧ J i sd S) (fun _ _ _ ⟨i, _, _, h⟩ => hok i _ _ h) (fun x r sd S ⟨i, hi, e, h⟩ => by
    by_cases hlt : i < xs.length
    · rw [List.drop_eq_getElem_cons hlt] at e
      injection e with e1 e2
      subst e1 e2
      obtain ⟨sd1, S1, sd2, S2, a, b', c⟩ := step i xs[i] sd S (by simp [hlt]) h
      exact ⟨sd1, S1, sd2, S2, a, b', i + 1, hlt, rfl, c⟩
    · have : i = xs.length := by omega
      subst this
      rw [List.drop_length] at e
      cases e) ⟨0, Nat.zero_le _, rfl, h⟩
  refine ⟨sd', S', e, ?_⟩
  have : i = xs.length := by
    have := congrArg List.length e2
    rw [List.length_drop] at this
    simp at this
    omega
  subst this
  exact h2
/-- [e for k in range(lo, lo + n)] -/
theorem lcGo_rng {g : MG} {t : MT} {e : ME} {ws : List Nat} {sd : Sl} {S : List Cell} {lo : Int} {n : Nat} (f : Nat → D) (hz : n ≤ sizeLine)
    (h : ∀ k, k < n → ∃ sd1, g (.int (lo + (k : Nat))) (wipeD sd ws) S = .ok sd1 S ∧ t sd1 S = .ok true S ∧ e sd1 S = .ok (f k) S) : lcGo ⟨rngD lo n, none⟩ ws g t e sd (rngD lo n) [] S = .ok ((List.range n).map f) S := by
  let F : D → D := fun d => match d with | .int i => f (i - lo).toNat | d => d
  have hF : ∀ k : Nat, F (.int (lo + (k : Nat))) = f k := fun k => by
    show f (lo + (k : Nat) - lo).toNat = f k
    congr 1
    omega
  rw [lcGo_map (it := ⟨rngD lo n, none⟩) F trivial (rngD lo n) [] (fun x hx => ?_) (by rw [rngD_length]; simpa using hz)]
  · congr 1
    unfold rngD
    rw [List.nil_append, List.map_map]
    exact List.map_congr_left fun k _ => hF k
  · obtain ⟨k, hk, rfl⟩ := List.mem_map.mp hx
    obtain ⟨sd1, a, b, c⟩ := h k (List.mem_range.mp hk)
    exact ⟨sd1, a, b, by rw [c, hF]⟩
theorem line_le {n : Nat} (h : n ≤ 16777216) : n ≤ sizeLine := by rw [sizeLine_eq]; exact h
end Fx

namespace Fx
open PySem PySem.Spec PyProof.Rows L2

/-! ### __init__(self, place) of an own exception, with super() -/
/-- what the text says of such a def: its place fI, its class D -/
abbrev scO (nm : List (Str × NameKind)) : Scope := { kind := .function, names := nm, isGenerator := false, isCoroutine := false }
structure InitF (P : Program) (K : PySem.W.Frag) (mg : Str → Option Value) (qual : Str) (st : Stmt) (nm : List (Str × NameKind)) (fI cc D : Addr) (cdv : Value) (fd : FuncData) : Prop where
  ex : ∃ (oc : Value) (od : Option Addr) (kV doc pm : Value) (an : Option Addr) (ct : Value) (osl : Array (Option Value)),
    fd = PySem.W.fnX "__init__" qual (defArgs st) (defBody st) (scO nm) [("__class__", cc)] .none kV doc pm an cdv ct ∧ K.lookup fI = some ⟨oc, od, .func fd, osl⟩ ∧ PySem.W.codeIn K cdv qual = true
  cod : ∃ (cda : Addr) (ccl : Value) (cdd : Option Addr) (vs : Array Value) (ccs : Array (Option Value)) (file : Str) (tf : Tok), cdv = .ref cda ∧ K.lookup cda = some ⟨ccl, cdd, .fields vs, ccs⟩ ∧ vs[2]? = some (.str file tf) ∧ ((P.main.file : Str) == file) = true
  cel : ∃ (cl : Value) (cld : Option Addr) (csl : Array (Option Value)), K.lookup cc = some ⟨cl, cld, .cell (some (.ref D)), csl⟩
  cls : ∃ cd, PySem.W.clsIn K D = some cd
  sup : mg "super" = none
  top : (P.main.scope.names.lookup ("super" : Str)).isSome = false
  par : ((defArgs st).posonlyargs ++ (defArgs st).args).map (·.arg) = ([("self" : Str), "place"] : List Str)
  scp : defScope st = scO nm ∧ True ∧ True ∧ (scO nm).names.lookup ("super" : Str) = some .globalImplicit ∧ (scO nm).names.lookup ("__class__" : Str) = some .free ∧
    (scO nm).names.lookup ("self" : Str) = some .local ∧ (scO nm).names.lookup ("place" : Str) = some .local
  nocell : ∀ y ∈ (scO nm).names, y.2 ≠ .cell
  nofree : ∀ y ∈ (scO nm).names, y.2 = .free → y.1 = "__class__"
abbrev iniEnv (qual : Str) (sc : Scope) (L f : Addr) (cdv : Value) (cc : Addr) : Env := PySem.W.envX qual sc L f cdv [("__class__", cc)]
/-- the body's context, at its entry -/
def iniCx (P : Program) (w : World) (K : PySem.W.Frag) (mg : Str → Option Value) (base : Heap) (qual : Str) (sc : Scope) (f cc : Addr) (cdv : Value) (A : Around) (outer : List Env) (s : Shared) (H : Hp) (E : XK) : Cx where
  prog := P
  w := w
  K := K
  mg := mg
  base := base
  A := A.deeper (iniEnv qual sc s.heap.objs.size f cdv cc)
  N := ["self", "place"]
  s_0 := s
  H_0 := H
  env := iniEnv qual sc s.heap.objs.size f cdv cc
  outer := outer
  stack := iniEnv qual sc s.heap.objs.size f cdv cc :: outer
  ex := []
  fn := fun _ => false
  calm := true
  pn := []
  xe := fun e s' => wpAny (model P w) (A.deeper (iniEnv qual sc s.heap.objs.size f cdv cc)) (leaving (iniEnv qual sc s.heap.objs.size f cdv cc) e) (fun _ s'' => L2.CX P w outer H s E e s'') (fun e' s'' => L2.CX P w outer H s E e' s'') s'
section
variable {P : Program} {w : World} {K : PySem.W.Frag} {mg : Str → Option Value} {base : Heap} {qual : Str} {st : Stmt} {nm : List (Str × NameKind)} {fI cc D : Addr} {cdv : Value} {fd : FuncData}
theorem ini_start {A : Around} {outer : List Env} {s : Shared} {H : Hp} {E : XK} {u0 u1 : Value} {v0 v1 : V} {h1 : Heap} {t1 : Nat} (F : InitF P K mg qual st nm fI cc D cdv fd) (hd : A.handled = none) (e0 : Env0 P w K mg base A outer s H) (r0 : RelV v0 u0) (r1 : RelV v1 u1)
    (hns : h1.Ns s.heap.objs.size fun y => ([("self", u0), ("place", u1)] : List (Str × Value)).reverse.lookup y) (kp : ∀ b o, s.heap.get? b = some o → h1.get? b = some o) :
    Inv (iniCx P w K mg base qual (scO nm) fI cc cdv A outer s H E) [] [some v0, some v1] H { s with heap := h1, toks := t1 } := by
  obtain ⟨k1, k2, k3, k4, k5, k6, k7⟩ := F.scp
  have noA : ∀ b : Addr, b ∉ (iniCx P w K mg base qual (scO nm) fI cc cdv A outer s H E).ex := fun b z => absurd (show b ∈ ([] : List Addr) from z) (by simp)
  have only : ∀ {y : Str} {c : Addr}, (iniCx P w K mg base qual (scO nm) fI cc cdv A outer s H E).env.cells.lookup y = some c → y = "__class__" ∧ c = cc := fun {y c} e => by
    have e : ([("__class__", cc)] : List (Str × Addr)).lookup y = some c := e
    have hm := PySem.mem_of_lookup e
    rw [List.mem_singleton] at hm
    exact ⟨congrArg Prod.fst hm, congrArg Prod.snd hm⟩
  obtain ⟨cl, cld, csl, hcc⟩ := F.cel
  have hcb : base.get? cc = some ⟨cl, cld, .cell (some (.ref D)), csl⟩ := e0.mod.kin _ _ hcc
  have hcs := e0.bs _ _ hcb
  refine ⟨⟨e0.mod, rfl, rfl, rfl, Nat.le_refl _, fun y z c e1 e2 => (only e1).1.trans (only e2).1.symm, fun y hy => ?_, fun y c z _ => ?_, fun _ => hd, Around.frames_deeper e0.frames, .inr ⟨rfl, rfl⟩, fun b z => absurd z (noA b), e0.bs, e0.bsz, fun b _ _ => noA b, fun b z => absurd z (noA b), e0.funs, e0.frf⟩,
    rfl, e0.bare, Un.kept kp, ⟨_, hns, fun i y v e1 e2 e3 => ?_⟩, fun y c e => ?_, e0.hok.fresh (Nat.le_refl _), fun y c e => ?_, fun q hq => absurd (show q ∈ ([] : List (Addr × Obj)) ++ [] from hq) (by simp), e0.hok.kept kp, rfl⟩
  · have hy : (scO nm).names.lookup y = some .cell ∨ (scO nm).names.lookup y = some .free := hy
    rcases hy with hy | hy
    · exact absurd rfl (F.nocell _ (PySem.mem_of_lookup hy))
    · have := F.nofree _ (PySem.mem_of_lookup hy) rfl
      subst this
      exact ⟨cc, rfl⟩
  · have z : false = true := z
    cases z
  · have hN : ([("self" : Str), "place"] : List Str)[i]? = some y := e1
    match i, hN, e2 with
    | 0, hN, e2 =>
      have hN : ("self" : Str) = y := Option.some.inj hN
      subst hN
      cases e2
      exact ⟨u0, r0, .inl ⟨k6, rfl⟩⟩
    | 1, hN, e2 =>
      have hN : ("place" : Str) = y := Option.some.inj hN
      subst hN
      cases e2
      exact ⟨u1, r1, .inl ⟨k7, rfl⟩⟩
    | n + 2, hN, e2 => simp at hN
  · obtain ⟨rfl, rfl⟩ := only e
    exact ⟨_, _, kp _ _ hcs.1, rfl⟩
  · obtain ⟨rfl, rfl⟩ := only e
    exact hcs.2

theorem sl_le {n : Nat} (h : n ≤ 1000) : n ≤ sizeLine := Nat.le_trans h (by decide)
theorem noCX {P : Program} {w : World} {outer : List Env} {H : Hp} {s : Shared} {e : Value} {s' : Shared} (h : L2.CX P w outer H s (fun _ _ _ => False) e s') : False := by
  obtain ⟨_, _, _, _, _, _, _, _, _, _, _, _, z⟩ := h
  exact z.elim
variable {A A2 : Around} {outer : List Env} {s0 s : Shared} {H0 H : Hp} {E0 : XK} {E : Value → Shared → Prop} {σ : St} {pins : List (Addr × Obj)} {a C : Addr} {p0 p1 p2 p3 p4 p5 : Pos}
abbrev iX (P : Program) (w : World) (K : PySem.W.Frag) (mg : Str → Option Value) (base : Heap) (qual : Str) (nm : List (Str × NameKind)) (fI cc : Addr) (cdv : Value) (A : Around) (outer : List Env) (s : Shared) (H : Hp) (E : XK) : Cx := iniCx P w K mg base qual (scO nm) fI cc cdv A outer s H E
/-- super(), self an exception that is being made -/
theorem ini_super {body : List Stmt} {ws : Sem Value} {x : V} {Q : Value → Shared → Prop} (F : InitF P K mg qual st nm fI cc D cdv fd) (I : Inv (iX P w K mg base qual nm fI cc cdv A outer s0 H0 E0) [] [some (.ref a), some x] H s)
    (ha : H a = some (exo a C none)) (hs : PySem.W.mroIn K C (.ref D) = some true)
    (h : ∀ so s', Inv (iX P w K mg base qual nm fI cc cdv A outer s0 H0 E0) [(so, PySem.W.ks_superObj D a C)] [some (.ref a), some x] H s' → Q (.ref so) s') :
    _root_.PySem.wpAt (model P w) A2 (.func body (iniEnv qual (scO nm) s0.heap.objs.size fI cdv cc)) (attributeBase (.Call (.Name "super" p0) [] [] p1) "__init__" (iniEnv qual (scO nm) s0.heap.objs.size fI cdv cc) ws) Q E s := by
  obtain ⟨k1, k2, k3, k4, k5, k6, k7⟩ := F.scp
  obtain ⟨oc, od, kV, doc, pm, an, ct, osl, rfl, lk, hcd⟩ := F.ex
  obtain ⟨cda, ccl, cdd, vs, ccs, file, tf, rfl, hcode, hvs, hfile⟩ := F.cod
  obtain ⟨cl, cld, csl, hcell⟩ := F.cel
  obtain ⟨cdD, hD⟩ := F.cls
  have KX : K.In s.heap := I.kIn
  obtain ⟨oD, hD1, hD2⟩ : ∃ oD, s.heap.get? D = some oD ∧ oD.data = .cls cdD := by
    revert hD
    unfold PySem.W.clsIn
    intro hD
    split at hD
    · rename_i c d cd' sl ho
      cases hD
      exact ⟨_, KX _ _ ho, rfl⟩
    · cases hD
  obtain ⟨ar, har, hself⟩ : ∃ ar : Arg, ((defArgs st).posonlyargs ++ (defArgs st).args).head? = some ar ∧ ar.arg = "self" := by
    have hp := F.par
    revert hp
    generalize (defArgs st).posonlyargs ++ (defArgs st).args = l
    intro hp
    cases l with
    | nil => cases hp
    | cons ar r => exact ⟨ar, rfl, (List.cons.inj hp).1⟩
  obtain ⟨t1, ho⟩ := exo_at I.hok ha
  obtain ⟨m, hns, hm⟩ := I.loc
  have hself2 : m "self" = some (.ref a) := by
    obtain ⟨u, r, q⟩ := hm 0 "self" (.ref a) rfl rfl (.inl k6)
    obtain rfl : u = Value.ref a := r
    rcases q with ⟨_, q⟩ | ⟨q, _⟩
    · exact q
    · have q : (scO nm).names.lookup ("self" : Str) = some .cell ∨ (scO nm).names.lookup ("self" : Str) = some .free := q
      rw [k6] at q
      rcases q with q | q <;> cases q
  obtain ⟨mb, hb1, hb2⟩ := I.mod.blt
  refine ks_wpAt_super_base (env := iniEnv qual (scO nm) s0.heap.objs.size fI (.ref cda) cc) k4 k5 rfl rfl (KX _ _ lk) rfl har rfl (KX _ _ hcode) rfl hvs hfile F.top ?_
  refine PySem.W.ks_loadName_global rfl k4 (PySem.Calls.loadGlobal_builtin (env := iniEnv qual (scO nm) s0.heap.objs.size fI (.ref cda) cc) (I.mod.glob.keeps I.bk) F.sup (hb1.keeps I.bk) ((hb2 "super" (by decide)).trans PyProof.Rows.Boot.«super») ⟨rfl, ?_⟩)
  refine wpAny_loadName_free rfl k5 rfl ⟨_, KX _ _ hcell, rfl⟩ ?_
  rw [hself]
  refine wpAny_loadName_local rfl k6 hns hself2 ?_
  obtain ⟨hh, g, d, t, os⟩ := s
  refine ks_wpAny_isType_cls hD1 hD2 ⟨rfl, ?_⟩
  refine ks_wpAny_call_super hD1 hD2 ho rfl (fun c e => by cases e) (PySem.W.looks_mroIn KX hs) fun h' e k => ?_
  exact h _ _ (ClX.pin_new I k (Nat.le_refl _) e fun v z => by cases z)

/-- super() finds ValueError's __init__ -/
structure SupV (K : PySem.W.Frag) (C D : Addr) : Prop where
  mro : PySem.W.mroIn K C (.ref D) = some true
  sup : PySem.W.ks_superIn K C D "__init__" = some (some (.builtin "ValueError.__init__"))
  sub : PySem.W.subIn K (.ref C) (.type "ValueError") = some true
  thi : PySem.W.nsIn K cStatics "thirdparty.any" = some none
  cls : OexC K C
abbrev SupEv (qual : Str) (nm : List (Str × NameKind)) (fI : Addr) (cdv : Value) (cc : Addr) (p0 p1 p2 p3 p4 : Pos) (pl : Sem Bool) : Prop := ∀ L : Addr,
  eval (.Call (.Attribute (.Call (.Name "super" p0) [] [] p1) "__init__" p2) [.Name "place" p3] [] p4) (iniEnv qual (scO nm) L fI cdv cc) = (do
    let ov ← attributeBase (.Call (.Name "super" p0) [] [] p1) "__init__" (iniEnv qual (scO nm) L fI cdv cc) (eval (.Call (.Name "super" p0) [] [] p1) (iniEnv qual (scO nm) L fI cdv cc))
    standAt p2.atName
    let (f, first) ← holding [ov] (getMethod ov "__init__" pl)
    callWith p4 f first (backTo p4 (starEach [.Name "place" p3] (iniEnv qual (scO nm) L fI cdv cc))) [])
theorem ini_callV {pl : Sem Bool} {body : List Stmt} {x : V} {Q : Flow → Shared → Prop} (hev : SupEv qual nm fI cdv cc p0 p1 p2 p3 p4 pl) (hsw : ∀ L, swapsWith (.Call (.Attribute (.Call (.Name "super" p0) [] [] p1) "__init__" p2) [.Name "place" p3] [] p4) none p5.line (iniEnv qual (scO nm) L fI cdv cc) = pure false)
    (F : InitF P K mg qual st nm fI cc D cdv fd) (SV : SupV K C D) (I : Inv (iX P w K mg base qual nm fI cc cdv A outer s0 H0 E0) [] [some (.ref a), some x] H s)
    (ha : H a = some (exo a C none)) (h : ∀ s', Inv (iX P w K mg base qual nm fI cc cdv A outer s0 H0 E0) [] [some (.ref a), some x] H s' → Q .next s') :
    _root_.PySem.wpAt (model P w) (A.deeper (iniEnv qual (scO nm) s0.heap.objs.size fI cdv cc)) (.func body (iniEnv qual (scO nm) s0.heap.objs.size fI cdv cc))
      (exec (.Expr (.Call (.Attribute (.Call (.Name "super" p0) [] [] p1) "__init__" p2) [.Name "place" p3] [] p4) p5) (iniEnv qual (scO nm) s0.heap.objs.size fI cdv cc)) Q (iX P w K mg base qual nm fI cc cdv A outer s0 H0 E0).xe s := by
  refine ks_wpAt_Expr_any (ks_wpAt_MethodCall (ini_super F I ha SV.mro fun so s1 I1 => ?_) (hev _)) rfl (hsw _)
  have KX : K.In s1.heap := I1.kIn
  have hso := ClX.pin_at I1
  obtain ⟨t1, ho⟩ := exo_at I1.hok ha
  have J : PySem.W.InstAt s1.heap a _ C none := ⟨ho, rfl, rfl, trivial⟩
  have hI : PySem.W.Looks (model P w) s1.heap (isInstance (.ref a) (.type "ValueError")) true := J.type.andThen (PySem.W.looks_subIn KX SV.sub)
  obtain ⟨nm', q, N, bs, bm, sn, sub, ab, col, dd, c0, c1, c2, c3, c5, hC, hbm⟩ := SV.cls.cls
  have hm := SV.sup
  cases hc : PySem.W.clsIn K C with
  | none =>
    unfold PySem.W.ks_superIn at hm
    rw [hc] at hm
    cases hm
  | some cd =>
    unfold PySem.W.ks_superIn at hm
    rw [hc] at hm
    have hne : a ≠ C := PySem.W.ks_ne KX J hc
    obtain ⟨hh, g, d, t, os⟩ := s1
    refine PySem.W.kxs_getMethod PySem.W.kxs_ValueError hso (PySem.W.looks_opaque KX SV.thi) (l₀ := cd.mro) (fun A Q E s k q => wpAny_bind ((PySem.W.looks_clsIn KX hc) A _ E s k (wpAny_pure q))) rfl KX hm hI hne rfl ?_
    have I2 : Inv (iX P w K mg base qual nm fI cc cdv A outer s0 H0 E0) [(hh.objs.size, PySem.W.kxs_mw "ValueError.__init__" a), (so, PySem.W.ks_superObj D a C)] [some (.ref a), some x] H ⟨hh.push (PySem.W.kxs_mw "ValueError.__init__" a), g, d, t + 1, os⟩ :=
      ClX.pin_new I1 (fun b o e => Heap.get?_push_of_some _ e) (Nat.le_refl _) (Heap.get?_push_size hh rfl) fun v z => by cases z
    have PL : PA (iX P w K mg base qual nm fI cc cdv A outer s0 H0 E0) [.Name "place" p3] (tCons (tVar 1) tNil) := pa_cons (pe_var rfl (.inl F.scp.2.2.2.2.2.2) (by decide) (by decide)) pa_nil rfl
    refine PySem.W.kxs_callWith (i := "ValueError.__init__") (x := a) rfl (PySem.Calls.evalArgs_plain (thn (PL.run p4 _ _ _ H (fun vs H1 => vs = [x] ∧ H1 = H) I2 ⟨x, rfl, rfl, rfl⟩) fun us s2 ⟨vs, H1, I3, rv, ev, eH⟩ => ?_))
    subst ev eH
    have hu := ClX.pin_at I3
    refine ⟨hu, ?_⟩
    obtain ⟨t2, ho2⟩ := exo_at I3.hok ha
    obtain ⟨h3, g3, d3, t3, os3⟩ := s2
    refine wpAny_call (codeAny_of_tree (show wpAny _ (Around.in1 _) (callAny (.ref hh.objs.size) ⟨us, []⟩) _ _ _ from ?_))
    unfold callAny
    refine wpAny_bind (wpAny_load hu ?_)
    refine PySem.W.KFB.if_so (show (Value.type "method-wrapper" == Value.type "method" || Value.type "method-wrapper" == Value.type "builtin_function_or_method" || (Value.type "method-wrapper" == Value.type "method-wrapper")) = true by decide) (wpAny_bind (PySem.W.check_bound_init PySem.F.excBase_ValueError.toExcCallFacts (I3.kIn _ _ hC) ho2 rfl (wpAny_bind (wpAny_pure (wpAny_pure ?_)))))
    refine ⟨plainId_quiet PySem.F.excBase_ValueError.init.plain _, codeAny_builtin PySem.F.excBase_ValueError.initEntry ?_⟩
    have hl : us.length ≤ sizeLine := by
      rw [← rv.length]
      exact sl_le (by simp)
    refine PySem.W.exc_init_tree (cls := .ref C) (t0 := t2) (dv := none) (c2 := .none) (c3 := .none) (b4 := .bool false) ho2 hl fun h' k hx _ => ?_
    have J3 := I3.write (t' := t3) (x := a) (e := a) (o := exo a C none) (by rw [ha]; exact True.intro) (.inl rfl) k ⟨_, hx⟩ (exo_ok hx)
    have eu : upd H1 a (exo a C none) = H1 := by
      funext b
      by_cases hb : b = a
      · rw [hb, upd_same, ha]
      · rw [upd_ne hb]
    rw [eu] at J3
    exact h _ (ClX.unpin (ClX.unpin J3))

/-- super() finds an own def -/
structure SupF (K : PySem.W.Frag) (C D fB : Addr) : Prop where
  mro : PySem.W.mroIn K C (.ref D) = some true
  sup : PySem.W.ks_superIn K C D "__init__" = some (some (.ref fB))
  typ : PySem.W.typeIn K (.ref fB) = some (.type "function")
  fi : PySem.W.fnIn K fB = true
  thi : PySem.W.nsIn K cStatics "thirdparty.any" = some none
theorem ini_callF {k : Nat} {fB : Addr} {sp : Sp} {G : Hp → Prop} {pl : Sem Bool} {body : List Stmt} {x : V} {Q : Flow → Shared → Prop} (hev : SupEv qual nm fI cdv cc p0 p1 p2 p3 p4 pl)
    (hsw : ∀ L, swapsWith (.Call (.Attribute (.Call (.Name "super" p0) [] [] p1) "__init__" p2) [.Name "place" p3] [] p4) none p5.line (iniEnv qual (scO nm) L fI cdv cc) = pure false)
    (F : InitF P K mg qual st nm fI cc D cdv fd) (SF : SupF K C D fB) (FR : FnR P w K mg base (L2.CX P w) k fB sp) (hr : Room k (A.deeper (iniEnv qual (scO nm) s0.heap.objs.size fI cdv cc)))
    (I : Inv (iX P w K mg base qual nm fI cc cdv A outer s0 H0 E0) [] [some (.ref a), some x] H s) (ha : H a = some (exo a C none)) (hsp : sp [.ref a, x] H (fun _ H1 => G H1) (fun _ _ _ => False))
    (h : ∀ s' H1, Inv (iX P w K mg base qual nm fI cc cdv A outer s0 H0 E0) [] [some (.ref a), some x] H1 s' → G H1 → Q .next s') :
    _root_.PySem.wpAt (model P w) (A.deeper (iniEnv qual (scO nm) s0.heap.objs.size fI cdv cc)) (.func body (iniEnv qual (scO nm) s0.heap.objs.size fI cdv cc))
      (exec (.Expr (.Call (.Attribute (.Call (.Name "super" p0) [] [] p1) "__init__" p2) [.Name "place" p3] [] p4) p5) (iniEnv qual (scO nm) s0.heap.objs.size fI cdv cc)) Q (iX P w K mg base qual nm fI cc cdv A outer s0 H0 E0).xe s := by
  refine ks_wpAt_Expr_any (ks_wpAt_MethodCall (ini_super F I ha SF.mro fun so s1 I1 => ?_) (hev _)) rfl (hsw _)
  have KX : K.In s1.heap := I1.kIn
  have hso := ClX.pin_at I1
  obtain ⟨t1, ho⟩ := exo_at I1.hok ha
  have J : PySem.W.InstAt s1.heap a _ C none := ⟨ho, rfl, rfl, trivial⟩
  obtain ⟨fo, hfo, hfc⟩ : ∃ fo, s1.heap.get? fB = some fo ∧ fo.cls = .type "function" := by
    have ht : (K.lookup fB).map (·.cls) = some (.type "function") := SF.typ
    cases z : K.lookup fB with
    | none => rw [z] at ht; cases ht
    | some fo => rw [z] at ht; exact ⟨fo, KX _ _ z, Option.some.inj ht⟩
  have hm := SF.sup
  cases hc : PySem.W.clsIn K C with
  | none =>
    unfold PySem.W.ks_superIn at hm
    rw [hc] at hm
    cases hm
  | some cd =>
    unfold PySem.W.ks_superIn at hm
    rw [hc] at hm
    have hne : a ≠ C := PySem.W.ks_ne KX J hc
    obtain ⟨hh, g, d, t, os⟩ := s1
    refine ks_wpAny_getMethod_super hso (PySem.W.looks_opaque KX SF.thi) (l₀ := cd.mro) (fun A Q E s k q => wpAny_bind ((PySem.W.looks_clsIn KX hc) A _ E s k (wpAny_pure q))) rfl KX hm hfo hfc hne rfl ?_
    have hq0 : (iX P w K mg base qual nm fI cc cdv A outer s0 H0 E0).base.get? hh.objs.size = none := ClX.base_none I1 (Nat.le_refl _)
    have I2 : Inv (iX P w K mg base qual nm fI cc cdv A outer s0 H0 E0) [(hh.objs.size, PySem.W.methodObj (.ref fB) (.ref a)), (so, PySem.W.ks_superObj D a C)] [some (.ref a), some x] H ⟨hh.push (PySem.W.methodObj (.ref fB) (.ref a)), g, d, t + 1, os⟩ :=
      ClX.pin_new I1 (fun b o e => Heap.get?_push_of_some _ e) (Nat.le_refl _) (Heap.get?_push_size hh rfl) fun v z => by cases z
    have PL : PA (iX P w K mg base qual nm fI cc cdv A outer s0 H0 E0) [.Name "place" p3] (tCons (tVar 1) tNil) := pa_cons (pe_var rfl (.inl F.scp.2.2.2.2.2.2) (by decide) (by decide)) pa_nil rfl
    refine ClX.callwith_cm (C := a) (g := fB) I2 hq0 SF.fi (thn (PL.run p4 _ _ _ H (fun vs H1 => vs = [x] ∧ H1 = H) I2 ⟨x, rfl, rfl, rfl⟩) fun us s2 ⟨vs, H1, I3, rv, ev, eH⟩ => ?_) rfl rfl
    subst ev eH
    refine ⟨⟨ClX.pin_at I3, I3.kIn⟩, ?_⟩
    refine thn (ClX.run_cm (C := a) (g := fB) FR hr (E := fun _ _ _ => False) (fun pins σ H s e s' I c => (noCX c).elim) I3 rv hsp) fun u s3 ⟨v, H3, I4, _, q⟩ => ?_
    exact h _ _ (ClX.unpin I4) q
end
end Fx

namespace Fx
open PySem PySem.Spec PyProof.Rows L2

/-! ### what such an __init__ promises -/
/-- the base's: place, then name -/
def spIB (K : PySem.W.Frag) (D : Addr) (n0 : Str) : Sp := fun vs H Q _ => ∃ a C x, vs = [.ref a, x] ∧ SupV K C D ∧ PySem.W.findIn K (.ref C) "place" = some none ∧ PySem.W.findIn K (.ref C) "name" = some none ∧ H a = some (exo a C none) ∧
  ∀ dx, H dx = none → dx ≠ a → Q .non (upd (upd (upd H dx (exd dx [("place", x)])) a (exo a C (some dx))) dx (exd dx [("name", .str n0), ("place", x)]))
/-- a derived one's: the base's, then name -/
def spID (K : PySem.W.Frag) (D DB fB : Addr) (n0 n1 : Str) : Sp := fun vs H Q _ => ∃ a C x, vs = [.ref a, x] ∧ SupF K C D fB ∧ SupV K C DB ∧ PySem.W.findIn K (.ref C) "place" = some none ∧ PySem.W.findIn K (.ref C) "name" = some none ∧ H a = some (exo a C none) ∧
  ∀ dx, H dx = none → dx ≠ a → Q .non (upd (upd (upd (upd H dx (exd dx [("place", x)])) a (exo a C (some dx))) dx (exd dx [("name", .str n0), ("place", x)])) dx (exd dx [("name", .str n1), ("name", .str n0), ("place", x)]))
section
variable {P : Program} {w : World} {K : PySem.W.Frag} {mg : Str → Option Value} {base : Heap} {qual : Str} {st : Stmt} {nm : List (Str × NameKind)} {fI cc D : Addr} {cdv : Value} {fd : FuncData} {p0 p1 p2 p3 p4 p5 : Pos} {pl : Sem Bool} {rest : List Stmt}
/-- entering such a def -/
theorem ini_run {A : Around} {outer : List Env} {s : Shared} {H : Hp} {args : Args} {us : List Value} {a : Addr} {x : V} {Q : VK} {E : XK} {k : Nat} {s0 : Stmt} (F : InitF P K mg qual st nm fI cc D cdv fd)
    (hbd : defBody st = s0 :: rest) (hr : Room (k + 1) A) (e0 : Env0 P w K mg base A outer s H) (hb : BindsTo s fd args (([("self" : Str), "place"] : List Str).zip us)) (r : Vals [.ref a, x] us)
    (h : ∀ (body : List Stmt) (s1 : Shared), Inv (iX P w K mg base qual nm fI cc cdv A outer s H E) [] [some (.ref a), some x] H s1 →
      _root_.PySem.wpAt (model P w) (A.deeper (iniEnv qual (scO nm) s.heap.objs.size fI cdv cc)) (.func body (iniEnv qual (scO nm) s.heap.objs.size fI cdv cc)) (exec s0 (iniEnv qual (scO nm) s.heap.objs.size fI cdv cc))
        (fun fl s2 => fl = .next ∧ ∃ H2 t, Inv (iX P w K mg base qual nm fI cc cdv A outer s H E) [] [some (.ref a), some x] H2 s2 ∧ PSs (iX P w K mg base qual nm fI cc cdv A outer s H E) rest t ∧ t { nx := fun _ H' => Q .non H', rt := Q } [some (.ref a), some x] H2)
        (iX P w K mg base qual nm fI cc cdv A outer s H E).xe s1) :
    codeAny (model P w) A (.call (.ref fI) args) (CR (L2.CX P w) outer P w H s Q E) s := by
  obtain ⟨oc, od, kV, doc, pm, an, ct, osl, e1, lk, hcd⟩ := F.ex
  have KX : K.In s.heap := e0.mod.kin.keeps fun b o e => (e0.bs b o e).1
  have lim : s.heap.NoLimit := e0.mod.nolimit.keeps fun b o e => (e0.bs b o e).1
  obtain ⟨u1, rfl, r1⟩ : ∃ u1, us = [.ref a, u1] ∧ RelV x u1 := by
    cases r with
    | @cons _ u _ ur ra rw' =>
      obtain rfl : u = Value.ref a := ra
      cases rw' with
      | @cons _ u1 _ ur2 rb rn =>
        cases rn
        exact ⟨u1, rfl, rb⟩
  subst e1
  refine ks_codeAny_call_defAt hr.depth (KX _ _ lk) rfl lim (PySem.W.codeRec_of KX hcd) rfl hb F.nocell (fun y hy => ?_) (fun h1 hns kp => ?_) rfl rfl rfl
  · have hy : y ∈ ([(("self" : Str), Value.ref a), ("place", u1)] : List (Str × Value)) := hy
    simp only [List.mem_cons, List.not_mem_nil, or_false] at hy
    rcases hy with rfl | rfl
    · exact F.scp.2.2.2.2.2.1
    · exact F.scp.2.2.2.2.2.2
  · have I := ini_start (E := E) F hr.hd e0 (v0 := .ref a) (v1 := x) rfl r1 hns kp (t1 := s.toks + (([("self" : Str), "place"] : List Str).zip [Value.ref a, u1]).length)
    rw [hbd]
    refine ks_wpAt_execs_cons (ks_wpAt_mono (h (s0 :: rest) _ I) (fun fl s2 q => ?_) fun _ _ z => z)
    obtain ⟨rfl, H2, t, J, hP, ht⟩ := q
    refine wpAt_of_wpAny (wpAny_mono (hP.run [] s2 _ H2 _ J ht) (fun fl s3 hs => ?_) fun e s3 z => z)
    have fin : ∀ {σ' : St} {H' : Hp} {v : V} {u : Value}, Inv (iX P w K mg base qual nm fI cc cdv A outer s H E) [] σ' H' s3 → RelV v u → Q v H' → CE outer P w H s Q u s3 :=
      fun {σ' H' v u} J rv q => ⟨v, H', J.os, J.bare, J.base, J.hok, rv, q⟩
    cases fl with
    | ret u =>
      obtain ⟨v, σ', H', J, rv, q⟩ := hs
      exact fin J rv q
    | next =>
      obtain ⟨σ', H', J, q⟩ := hs
      exact fin (v := V.non) (u := Value.none) J rfl q
    | brk =>
      obtain ⟨_, _, _, q⟩ := hs
      exact False.elim q
    | cont =>
      obtain ⟨_, _, _, q⟩ := hs
      exact False.elim q
abbrev supSt (p0 p1 p2 p3 p4 p5 : Pos) : Stmt := .Expr (.Call (.Attribute (.Call (.Name "super" p0) [] [] p1) "__init__" p2) [.Name "place" p3] [] p4) p5
abbrev SupSw (qual : Str) (nm : List (Str × NameKind)) (fI : Addr) (cdv : Value) (cc : Addr) (p0 p1 p2 p3 p4 p5 : Pos) : Prop :=
  ∀ L, swapsWith (.Call (.Attribute (.Call (.Name "super" p0) [] [] p1) "__init__" p2) [.Name "place" p3] [] p4) none p5.line (iniEnv qual (scO nm) L fI cdv cc) = pure false
theorem ini_okB {n0 : Str} {k : Nat} (F : InitF P K mg qual st nm fI cc D cdv fd) (hbd : defBody st = supSt p0 p1 p2 p3 p4 p5 :: rest) (hev : SupEv qual nm fI cdv cc p0 p1 p2 p3 p4 pl) (hsw : SupSw qual nm fI cdv cc p0 p1 p2 p3 p4 p5)
    (hrest : ∀ A outer s H E, PSs (iX P w K mg base qual nm fI cc cdv A outer s H E) rest (tSeq (tOst K "place" (tVar 0) (tVar 1)) (tSeq (tOst K "name" (tVar 0) (tC (.str n0))) tNext))) :
    FnOk P w K mg base (L2.CX P w) (k + 1) fI fd ["self", "place"] (spIB K D n0) := by
  refine ⟨fun vs H Q E ⟨a, C, x, e, _⟩ => by rw [e]; rfl, fun A outer s H args us vs Q E hr e0 hb r hsp => ?_⟩
  obtain ⟨a, C, x, rfl, SV, hp, hn, ha, hq⟩ := hsp
  refine ini_run (x := x) F hbd hr e0 hb r fun body s1 I => ini_callV hev hsw F SV I ha fun s2 J => ⟨rfl, H, _, J, hrest _ _ _ _ _, ?_⟩
  refine ⟨x, rfl, .ref a, rfl, a, C, rfl, SV.cls, hp, .inl ⟨ha, fun dx nd ne => ?_⟩⟩
  refine ⟨.ref a, rfl, a, C, rfl, SV.cls, hn, .inr ⟨dx, [("place", x)], upd_same, by rw [upd_ne ne, upd_same], by simp, hq dx nd ne⟩⟩
theorem ini_okD {n0 n1 : Str} {fB DB : Addr} {fdB : FuncData} {k : Nat} (F : InitF P K mg qual st nm fI cc D cdv fd) (hbd : defBody st = supSt p0 p1 p2 p3 p4 p5 :: rest) (hev : SupEv qual nm fI cdv cc p0 p1 p2 p3 p4 pl) (hsw : SupSw qual nm fI cdv cc p0 p1 p2 p3 p4 p5)
    (FB : FnOk P w K mg base (L2.CX P w) k fB fdB ["self", "place"] (spIB K DB n0)) (hbB : Binds K fdB ["self", "place"] [])
    (hrest : ∀ A outer s H E, PSs (iX P w K mg base qual nm fI cc cdv A outer s H E) rest (tSeq (tOst K "name" (tVar 0) (tC (.str n1))) tNext)) :
    FnOk P w K mg base (L2.CX P w) (k + 1) fI fd ["self", "place"] (spID K D DB fB n0 n1) := by
  refine ⟨fun vs H Q E ⟨a, C, x, e, _⟩ => by rw [e]; rfl, fun A outer s H args us vs Q E hr e0 hb r hsp => ?_⟩
  obtain ⟨a, C, x, rfl, SF, SV, hp, hn, ha, hq⟩ := hsp
  refine ini_run (x := x) F hbd hr e0 hb r fun body s1 I => ini_callF (G := fun H1 => ∃ dx, H dx = none ∧ dx ≠ a ∧ H1 = upd (upd (upd H dx (exd dx [("place", x)])) a (exo a C (some dx))) dx (exd dx [("name", .str n0), ("place", x)])) hev hsw F SF (FB.raw hbB .nil) (hr.deeper _) I ha
    ⟨a, C, x, rfl, SV, hp, hn, ha, fun dx nd ne => ⟨dx, nd, ne, rfl⟩⟩ fun s2 H1 J ⟨dx, nd, ne, e⟩ => ⟨rfl, H1, _, J, hrest _ _ _ _ _, ?_⟩
  subst e
  refine ⟨.ref a, rfl, a, C, rfl, SV.cls, hn, .inr ⟨dx, _, by rw [upd_ne (Ne.symm ne), upd_same], upd_same, by simp, hq dx nd ne⟩⟩
end
end Fx

namespace Fx
open PySem PySem.Spec PyProof.Rows L2

/-! ### raise C(e), C an own exception -/
/-- the fields of such an exception: its names, the last one first, then the place -/
def exFs (ns : List (List Nat)) (d : D) : List (String × D) := ns.map (fun n => ("name", D.str n)) ++ [("place", d)]
theorem str_back (n : Str) : (⟨n.cps.toList.toArray⟩ : Str) = n := by cases n; simp
def exFv (ns : List (List Nat)) (x : V) : List (Str × V) := ns.map (fun n => (("name" : Str), V.str ⟨n.toArray⟩)) ++ ([(("place" : Str), x)] : List (Str × V))
/-- the class x: how it is made -/
def ExcCls (P : Program) (w : World) (K : PySem.W.Frag) (mg : Str → Option Value) (base : Heap) (k : Nat) (x : String) (ns : List (List Nat)) : Prop :=
  ∃ C fI fd sp, mg (Str.ofString x) = some (.ref C) ∧ OexC K C ∧ PySem.W.findIn K (.ref C) "__init__" = some (some (.ref fI)) ∧ PySem.W.typeIn K (.ref fI) = some (.type "function") ∧
    FnOk P w K mg base (L2.CX P w) k fI fd ["self", "place"] sp ∧ Binds K fd ["self", "place"] [] ∧
    ∀ a v H1 Q, H1 a = none → (∀ d H2, H1 d = none → d ≠ a → H2 a = some (exo a C (some d)) → H2 d = some (exd d (exFv ns v)) → (∀ b, b ≠ a → b ≠ d → H2 b = H1 b) → Q .non H2) → sp [.ref a, v] (upd H1 a (exo a C none)) Q (fun _ _ _ => False)
section
variable {P : Program} {w : World} {K : PySem.W.Frag} {mg : Str → Option Value} {base : Heap}
theorem ExcCls.ofB {k : Nat} {x : String} {C fI : Addr} {fd : FuncData} {n0 : Str} (hm : mg (Str.ofString x) = some (.ref C)) (iC : PySem.W.findIn K (.ref C) "__init__" = some (some (.ref fI))) (tI : PySem.W.typeIn K (.ref fI) = some (.type "function"))
    (F : FnOk P w K mg base (L2.CX P w) k fI fd ["self", "place"] (spIB K C n0)) (hb : Binds K fd ["self", "place"] []) (SV : SupV K C C) (hp : PySem.W.findIn K (.ref C) "place" = some none) (hn : PySem.W.findIn K (.ref C) "name" = some none) :
    ExcCls P w K mg base k x [n0.cps.toList] := by
  refine ⟨C, fI, fd, _, hm, SV.cls, iC, tI, F, hb, fun a v H1 Q h0 hq => ⟨a, C, v, rfl, SV, hp, hn, upd_same, fun dx nd ne => ?_⟩⟩
  rw [upd_ne ne] at nd
  refine hq dx _ nd ne (by rw [upd_ne (Ne.symm ne), upd_same]) (by unfold exFv; simp only [List.map_cons, List.map_nil, List.cons_append, List.nil_append, str_back]; exact upd_same) fun b b1 b2 => ?_
  rw [upd_ne b2, upd_ne b1, upd_ne b2, upd_ne b1]
theorem ExcCls.der {k : Nat} {x : String} {C DB fB fI : Addr} {fd : FuncData} {n0 n1 : Str} (hm : mg (Str.ofString x) = some (.ref C)) (iC : PySem.W.findIn K (.ref C) "__init__" = some (some (.ref fI))) (tI : PySem.W.typeIn K (.ref fI) = some (.type "function"))
    (F : FnOk P w K mg base (L2.CX P w) k fI fd ["self", "place"] (spID K C DB fB n0 n1)) (hb : Binds K fd ["self", "place"] []) (SF : SupF K C C fB) (SV : SupV K C DB) (hp : PySem.W.findIn K (.ref C) "place" = some none) (hn : PySem.W.findIn K (.ref C) "name" = some none) :
    ExcCls P w K mg base k x [n1.cps.toList, n0.cps.toList] := by
  refine ⟨C, fI, fd, _, hm, SV.cls, iC, tI, F, hb, fun a v H1 Q h0 hq => ⟨a, C, v, rfl, SF, SV, hp, hn, upd_same, fun dx nd ne => ?_⟩⟩
  rw [upd_ne ne] at nd
  refine hq dx _ nd ne (by rw [upd_ne (Ne.symm ne), upd_ne (Ne.symm ne), upd_same]) (by unfold exFv; simp only [List.map_cons, List.map_nil, List.cons_append, List.nil_append, str_back]; exact upd_same) fun b b1 b2 => ?_
  rw [upd_ne b2, upd_ne b2, upd_ne b1, upd_ne b2, upd_ne b1]
end
def mRaise (x : String) (ns : List (List Nat)) (m : ME) : MS := fun sd S => (m sd S).thenS sd fun d S1 => .exc ⟨x, exFs ns d⟩ sd S1
section
variable {X : Cx} {W : WX} {P : Program} {w : World}
theorem exFs_rep {μ : Mu} {H : Hp} {ns : List (List Nat)} {d : D} {v : V} (r : RepV X.K μ H d v) : (exFv ns v).map (·.1) = (exFs ns d).map (fun p => Str.ofString p.1) ∧ RepL X.K μ H ((exFs ns d).map (·.2)) ((exFv ns v).map (·.2)) := by
  induction ns with
  | nil => exact ⟨rfl, .cons r .nil⟩
  | cons n ns ih => exact ⟨congrArg _ ih.1, .cons (.str n) ih.2⟩
theorem ss_raise {k : Nat} {x : String} {ns : List (List Nat)} {e : Expr} {m : ME} {p pos pos' : Pos} (hc : X.calm = true) (tk : Takes X W) (T : ExcCls X.prog X.w X.K X.mg X.base k x ns) (hr : Room (k + 1) X.A) (he : SE X W e m) (hg : Gl X (Str.ofString x))
    (hdb : ((Str.ofString x) == ("__debug__" : Str)) = false) (hst : starEach [e] X.env = (false, eval e X.env) :: starEach [] X.env := by rfl) (hpl : (backTo pos (starEach [] X.env)).any (·.1) = false := by rfl) :
    SS X W (.Raise (some (.Call (.Name (Str.ofString x) p) [e] [] pos)) none pos') (mRaise x ns m) := by
  obtain ⟨C, fI, fd, sp, hm, OC, iC, tI, F, hb, hsp⟩ := T
  refine (ps_raise hc tk (pmk_oex (dvs := []) OC iC tI F hr hb .nil (fun pins σ H s e s' I c => (noCX c).elim) hg hm (pa_cons he pa_nil hst) hdb hst hpl)).impF fun D' σ H ⟨μ, S, sd, hs, hl, h⟩ => ?_
  refine tE_then hs hl h fun d S1 μ1 v H1 s1 l1 u1 r1 q => ?_
  refine ⟨by simp, fun a ha => ?_⟩
  refine hsp a v H1 _ ha fun dx H2 nd ne e1 e2 e3 => ⟨rfl, dx, exFv ns v, e1, e2, nd, ?_⟩
  have eq : upd (del H2 a) dx (.xd (exFv ns v)) = upd H1 dx (.xd (exFv ns v)) := by
    funext b
    by_cases hb : b = dx
    · rw [hb, upd_same, upd_same]
    · rw [upd_ne hb, upd_ne hb]
      by_cases hba : b = a
      · rw [hba, del_same, ha]
      · rw [del_ne hba, e3 b hba hb]
  rw [eq]
  have u2 : Up μ1 H1 μ1 (upd H1 dx (.xd (exFv ns v))) := up_tmp nd
  exact q _ _ σ _ μ1 u2 (s1.tmp nd) (l1.up u2) ⟨C, dx, _, rfl, rfl, hm, upd_same, (exFs_rep (X := X) (r1.up u2)).1, (exFs_rep (X := X) (r1.up u2)).2⟩
end
end Fx

namespace Fx
open PySem PySem.Spec PyProof.Rows L2

/-! ### try with several clauses, each with a name or without one -/
abbrev Clause := Value × Option Nat × (Addr → Value → Option Addr → TS)
/-- the ends of a suite whose clause has a name: it goes -/
def dropE (i : Nat) (D : Ends) : Ends := { nx := fun σ H => D.nx (σ.set i none) H, rt := D.rt, bk := fun σ H => D.bk (σ.set i none) H, ct := fun σ H => D.ct (σ.set i none) H }
def wMix (K : PySem.W.Frag) (Wo : WX) (D : Ends) : List Clause → WX
  | [] => Wo
  | (c, oi, ts) :: r => fun cls d σ H => ∃ b, PySem.W.exmOne K cls c = some b ∧
    (b = true → ∀ a, H a = none → match oi with | none => ts a cls d D σ H | some i => ts a cls d (dropE i D) (σ.set i (some (.ref a))) H) ∧ (b = false → wMix K Wo D r cls d σ H)
inductive ClausesOk (X : Cx) : List ExceptHandler → List Clause → Prop
  | nil : ClausesOk X [] []
  | only {x : Str} {c : Value} {ts : Addr → Value → Option Addr → TS} {st : Stmt} {su : List Stmt} {p p' : Pos} {hl : List ExceptHandler} {l : List Clause} (hc : Names X x c)
      (hsu : ∀ a oe cls d pn, Zc cls d oe → (∃ vs, oe.data = .fields vs) → PSs (X.suite a ((a, oe) :: pn)) (st :: su) (ts a cls d)) (r : ClausesOk X hl l) : ClausesOk X (.ExceptHandler (some (.Name x p)) none (st :: su) p' :: hl) ((c, none, ts) :: l)
  | named {x n : Str} {i : Nat} {c : Value} {ts : Addr → Value → Option Addr → TS} {st : Stmt} {su : List Stmt} {p p' : Pos} {hl : List ExceptHandler} {l : List Clause} (hc : Names X x c) (hi : X.N[i]? = some n) (hk : X.env.kindOf n = some .local)
      (hsu : ∀ a oe cls d pn, Zc cls d oe → (∃ vs, oe.data = .fields vs) → PSs (X.suite a ((a, oe) :: pn)) (st :: su) (ts a cls d)) (r : ClausesOk X hl l) : ClausesOk X (.ExceptHandler (some (.Name x p)) (some n) (st :: su) p' :: hl) ((c, some i, ts) :: l)
section
variable {X : Cx} {body : List Stmt} {hd : ExceptHandler} {hl : List ExceptHandler} {l : List Clause} {pos : Pos} {tb : WX → TS} {Wo : WX}
theorem ps_try_mix (hS : X.stack = X.env :: X.outer) (hF : X.env.frame = some X.env.locals) (hN : X.N.Nodup) (tk : Takes X Wo)
    (hb : ∀ (W : WX) (pn : List (Addr × Obj)) (xe : Value → Shared → Prop), Takes (X.tr pn xe) W → PassesOwn (model X.prog X.w) X.A X.env xe → PSs (X.tr pn xe) body (tb W))
    (hh : ClausesOk X (hd :: hl) l) : PS X (.Try body (hd :: hl) [] [] pos) (fun D σ H => tb (wMix X.K Wo D l) D σ H) := by
  constructor
  intro pins s σ H D I h
  have okX := I.ok
  have frX : X.A.frames = some (X.env :: X.outer) := okX.frames.trans (congrArg some hS)
  refine wpAny_Try_except (wpAny_mono ((hb (wMix X.K Wo D l) (X.pn ++ pins) (fun e sa => wpAny (model X.prog X.w) X.A (noteFrame e X.env) (fun _ sb => wpAny (model X.prog X.w) X.A (setFlight e none) (fun _ sc =>
    wpAny (model X.prog X.w) X.A (handleBy e X.env (hd :: hl)) (SP X pins D) X.xe sc) X.xe sb) X.xe sa) (fun u s' xx => ?_) PassesOwn.looking).run [] s σ H D (I.toTry _) h) (fun f s1 hsp => ?_) (fun e s1 he => he))
  · obtain ⟨a, B, sI, pinsI, σI, HI, cls, d, rfl, JT, nb, up, sky, na, os, ag, wish⟩ := xx
    have JI : Inv X pins σI HI sI := JT.ofTry okX
    have skyX : Sky B (X.env :: X.outer) a (Zc cls d) X.env.locals s'.heap := hS ▸ sky
    show wpAny (model X.prog X.w) X.A (noteFrame (.ref a) X.env) _ _ _
    refine Sky.land Zc.steady frX hF skyX fun hA flA upA => ?_
    have JA : Inv X pins σI HI { s' with heap := hA } := JI.landed nb flA.1 (up.trans upA) os ag
    obtain ⟨oeA, vsA, heA, hzA, hdA⟩ := flA.there
    have offFr : a ∉ frs (X.env :: X.outer) := fun hm => by
      obtain ⟨_, o2, e2, nf⟩ := flA.2.2.1.mem hm
      rw [heA] at e2
      cases e2
      exact nf _ hdA
    have offL : a ≠ X.env.locals := fun z => offFr (List.mem_filterMap.mpr ⟨X.env, List.mem_cons_self, hF.trans (congrArg some z.symm)⟩)
    have offF : a ∉ X.fs := fun hm => by
      obtain ⟨e2, m2, q2⟩ := List.mem_filterMap.mp hm
      exact offFr (List.mem_filterMap.mpr ⟨e2, List.mem_cons_of_mem _ m2, q2⟩)
    have SA := JA.suite heA hdA na offL offF
    have LT : PySem.W.Looks (model X.prog X.w) hA (typeOf (.ref a)) cls := fun A Q E s k q => wpAny_typeOf_ref (k _ _ heA) (by rw [hzA.1]; exact q)
    have tst : ∀ {x : Str} {c : Value} {p : Pos} {Q : Value → Shared → Prop} {E : Value → Shared → Prop}, Names X x c → Q c { s' with heap := hA } → wpAny (model X.prog X.w) (X.A.mark (some (.ref a))) (eval (.Name x p) X.env) Q E { s' with heap := hA } := fun {x c p Q E} hc q => by
      obtain ⟨hg, hdbg, hm | ⟨hm, hv, hnn⟩⟩ := hc
      · exact ld_glob (X := X.suite a ((a, oeA) :: (X.pn ++ pins))) SA hg hm q hdbg
      · exact ld_blt (X := X.suite a ((a, oeA) :: (X.pn ++ pins))) SA hg hm hv q hnn hdbg
    have go : ∀ {hl' : List ExceptHandler} {l' : List Clause}, ClausesOk X hl' l' → wMix X.K Wo D l' cls d σI HI → wpAny (model X.prog X.w) X.A (handleBy (.ref a) X.env hl') (SP X pins D) X.xe { s' with heap := hA } := by
      intro hl' l' hk
      induction hk with
      | nil =>
        intro wi
        refine wpAny_handleBy_nil ?_
        obtain ⟨k1, k2, k3, oe, vs, T, oT, ts', he, hz, hd', h1, hr⟩ := id flA
        unfold PySem.passOn
        refine wpAny_bind (wpAny_field he hd' h1 ?_)
        rw [if_neg (show ¬ ((Value.ref T == Value.none) = true) from by simp)]
        have fin : wpAny (model X.prog X.w) X.A (setFlight (.ref a) X.env.frame) (fun _ sd => wpAny (model X.prog X.w) X.A (throw (.ref a) : Sem Flow) (SP X pins D) X.xe sd) X.xe { s' with heap := hA } := by
          rw [hF]
          exact HandSPX.setFlight_upZ flA fun hC hhC upC => wpAny_throw (tk _ _ ⟨a, B, sI, pins, σI, HI, cls, d, rfl, JI, nb, (up.trans upA).trans upC, .inr (.inr (by rw [hS]; exact hhC)), na, os, ag, wi⟩)
        first
          | exact wpAny_bind (wpAny_pure (wpAny_bind fin))
          | exact wpAny_bind fin
      | @only x c ts st su p p' hl2 l2 hc hsu r ih =>
        intro wi
        obtain ⟨b, eb, yes, no⟩ := wi
        refine wpAny_handleBy_cons (codeAny_handlers_test (tst hc ((PySem.W.exm_one (M := model X.prog X.w) JA.kIn LT eb).here ?_))) (by intro q; cases q)
        cases b with
        | true =>
          refine codeAny_handlers_suite (HandSPX.lands_againZ flA fun hC flC upC => ?_)
          have JC : Inv X pins σI HI { s' with heap := hC } := JI.landed nb flC.1 ((up.trans upA).trans upC) os ag
          obtain ⟨oeC, vsC, heC, hzC, hdC⟩ := flC.there
          have SC := JC.suite heC hdC na offL offF
          refine wpAny_mono ((hsu a oeC cls d (X.pn ++ pins) hzC ⟨_, hdC⟩).run [] _ _ HI _ SC (yes rfl a na)) (fun f sf q => ?_) (fun _ _ z => z.elim)
          cases f with
          | ret u => exact let ⟨v, σf, Hf, Sf, rf, qf⟩ := q; ⟨v, σf, Hf, Sf.unsuite okX, rf, qf⟩
          | next => exact let ⟨σf, Hf, Sf, qf⟩ := q; ⟨σf, Hf, Sf.unsuite okX, qf⟩
          | brk => exact let ⟨σf, Hf, Sf, qf⟩ := q; ⟨σf, Hf, Sf.unsuite okX, qf⟩
          | cont => exact let ⟨σf, Hf, Sf, qf⟩ := q; ⟨σf, Hf, Sf.unsuite okX, qf⟩
        | false =>
          show wpAny _ X.A (handleBy (.ref a) X.env hl2) _ _ _
          exact ih (no rfl)
      | @named x n i c ts st su p p' hl2 l2 hc hi hk hsu r ih =>
        intro wi
        obtain ⟨b, eb, yes, no⟩ := wi
        refine wpAny_handleBy_cons (codeAny_handlers_test (tst hc ((PySem.W.exm_one (M := model X.prog X.w) JA.kIn LT eb).here ?_))) (by intro q; cases q)
        cases b with
        | true =>
          refine codeAny_handlers_suite_as (HandSPX.lands_againZ flA fun hC flC upC => ?_)
          have JC : Inv X pins σI HI { s' with heap := hC } := JI.landed nb flC.1 ((up.trans upA).trans upC) os ag
          obtain ⟨oeC, vsC, heC, hzC, hdC⟩ := flC.there
          have SC := JC.suite heC hdC na offL offF
          refine store_ok (X := X.suite a ((a, oeC) :: (X.pn ++ pins))) (v := .ref a) SC hN hi (.inl hk) rfl (fun sg SG => ?_) (.inr hk)
          refine wpAny_mono ((hsu a oeC cls d (X.pn ++ pins) hzC ⟨_, hdC⟩).run [] sg _ HI _ SG (yes rfl a na)) (fun f sf q => ?_) (fun _ _ z => z.elim)
          have bye : ∀ {σf : St} {Hf : Hp} {Q : Shared → Prop}, Inv (X.suite a ((a, oeC) :: (X.pn ++ pins))) [] σf Hf sf → (∀ s7, Inv X pins (σf.set i none) Hf s7 → Q s7) →
              wpAny (model X.prog X.w) X.A (do bindName X.env n .none; unbindBehindTheSuite X.env n p') (fun _ s7 => Q s7) X.xe sf := fun {σf Hf Q} Sf hq => gone_ok (Sf.unsuite okX) hN hi hk hq
          cases f with
          | ret u => exact let ⟨v, σf, Hf, Sf, rf, qf⟩ := q; bye Sf fun s7 J7 => ⟨v, _, Hf, J7, rf, qf⟩
          | next => exact let ⟨σf, Hf, Sf, qf⟩ := q; bye Sf fun s7 J7 => ⟨_, Hf, J7, qf⟩
          | brk => exact let ⟨σf, Hf, Sf, qf⟩ := q; bye Sf fun s7 J7 => ⟨_, Hf, J7, qf⟩
          | cont => exact let ⟨σf, Hf, Sf, qf⟩ := q; bye Sf fun s7 J7 => ⟨_, Hf, J7, qf⟩
        | false =>
          show wpAny _ X.A (handleBy (.ref a) X.env hl2) _ _ _
          exact ih (no rfl)
    exact go hh wish
  · cases f with
    | ret u => exact let ⟨v, σf, Hf, Jf, r, q⟩ := hsp; ⟨v, σf, Hf, Jf.ofTry okX, r, q⟩
    | next => exact let ⟨σf, Hf, Jf, q⟩ := hsp; wpAny_execs_nil ⟨σf, Hf, Jf.ofTry okX, q⟩
    | brk => exact let ⟨σf, Hf, Jf, q⟩ := hsp; ⟨σf, Hf, Jf.ofTry okX, q⟩
    | cont => exact let ⟨σf, Hf, Jf, q⟩ := hsp; ⟨σf, Hf, Jf.ofTry okX, q⟩
end
end Fx

namespace Fx
open PySem PySem.Spec PyProof.Rows L2

/-! ### try, mirrored -/
abbrev MH := Ex → MS
abbrev Tab := String → String → Option Bool
abbrev HCl := String × Option Nat × MH
def dropS (i : Nat) : ResS → ResS
  | .nx sd S => .nx (sd.set i none) S
  | .bk sd S => .bk (sd.set i none) S
  | .ct sd S => .ct (sd.set i none) S
  | .rt d S => .rt d S
  | .exc _ _ _ => .stk
  | .stk => .stk
def plainS : ResS → ResS
  | .exc _ _ _ => .stk
  | r => r
def mHd (tab : Tab) (x : Ex) : List HCl → MS
  | [], sd, S => .exc x sd S
  | (n, oi, m) :: r, sd, S => match tab x.cls n with
    | some true => (match oi with
      | none => plainS (m x sd S)
      | some i => if i < sd.length then dropS i (m x (sd.set i none) S) else .stk)
    | some false => mHd tab x r sd S
    | none => .stk
def mTry (tab : Tab) (b : MS) (hs : List HCl) : MS := fun sd S => match b sd S with
  | .exc x sd1 S1 => mHd tab x hs sd1 S1
  | r => r
/-- what a suite is told of the caught exception -/
def tHd (mg : Str → Option Value) (K : PySem.W.Frag) (oi : Option Nat) (m : MH) (a : Addr) (cls : Value) (d : Option Addr) : TS := fun D σ H =>
  ∃ x μ S sd, StoRep mg K μ S H ∧ SlRep K μ H sd σ ∧ ExRep mg K μ H x cls d ∧ (∀ i, oi = some i → σ[i]? = some (some (.ref a))) ∧ FinS mg K W0 μ H (m x sd S) D
/-- a clause is right: its class is told by the table, its suite does what its mirror says -/
inductive HsOk (X : Cx) (tab : Tab) : List ExceptHandler → List HCl → List Clause → Prop
  | nil : HsOk X tab [] [] []
  | only {n : String} {c : Value} {m : MH} {st : Stmt} {su : List Stmt} {p p' : Pos} {hl : List ExceptHandler} {hs : List HCl} {l : List Clause} (hc : Names X (Str.ofString n) c)
      (ht : ∀ y b, tab y n = some b → ∀ C, X.mg (Str.ofString y) = some (.ref C) → PySem.W.exmOne X.K (.ref C) c = some b)
      (hsu : ∀ a oe cls d pn, Zc cls d oe → (∃ vs, oe.data = .fields vs) → PSs (X.suite a ((a, oe) :: pn)) (st :: su) (tHd X.mg X.K none m a cls d)) (r : HsOk X tab hl hs l) :
      HsOk X tab (.ExceptHandler (some (.Name (Str.ofString n) p)) none (st :: su) p' :: hl) ((n, none, m) :: hs) ((c, none, tHd X.mg X.K none m) :: l)
  | named {n : String} {v : Str} {i : Nat} {c : Value} {m : MH} {st : Stmt} {su : List Stmt} {p p' : Pos} {hl : List ExceptHandler} {hs : List HCl} {l : List Clause} (hc : Names X (Str.ofString n) c)
      (ht : ∀ y b, tab y n = some b → ∀ C, X.mg (Str.ofString y) = some (.ref C) → PySem.W.exmOne X.K (.ref C) c = some b) (hi : X.N[i]? = some v) (hk : X.env.kindOf v = some .local)
      (hsu : ∀ a oe cls d pn, Zc cls d oe → (∃ vs, oe.data = .fields vs) → PSs (X.suite a ((a, oe) :: pn)) (st :: su) (tHd X.mg X.K (some i) m a cls d)) (r : HsOk X tab hl hs l) :
      HsOk X tab (.ExceptHandler (some (.Name (Str.ofString n) p)) (some v) (st :: su) p' :: hl) ((n, some i, m) :: hs) ((c, some i, tHd X.mg X.K (some i) m) :: l)
section
variable {X : Cx} {W : WX} {tab : Tab}
theorem HsOk.clauses {hl : List ExceptHandler} {hs : List HCl} {l : List Clause} (h : HsOk X tab hl hs l) : ClausesOk X hl l := by
  induction h with
  | nil => exact .nil
  | only hc ht hsu r ih => exact .only hc hsu ih
  | named hc ht hi hk hsu r ih => exact .named hc hi hk hsu ih
theorem slRep_any {K : PySem.W.Frag} {μ : Mu} {H : Hp} {sd : Sl} {σ : St} {i : Nat} {v : Option V} (h : SlRep K μ H sd σ) : SlRep K μ H (sd.set i none) (σ.set i v) where
  len := by simp [h.len]
  at_ := fun j e q => by
    by_cases hj : j = i
    · subst hj
      rw [List.getElem?_set] at q
      simp at q
    · rw [List.getElem?_set_ne (Ne.symm hj)] at q ⊢
      exact h.at_ j e q
theorem finS_drop {mg : Str → Option Value} {K : PySem.W.Frag} {μ : Mu} {H : Hp} {r : ResS} {D : Ends} {i : Nat} (h : FinS mg K W μ H (dropS i r) D) : FinS mg K W0 μ H r (dropE i D) := by
  cases r with
  | nx sd S => exact fun σ' H' μ' u s l => h _ H' μ' u s (slRep_any l)
  | bk sd S => exact fun σ' H' μ' u s l => h _ H' μ' u s (slRep_any l)
  | ct sd S => exact fun σ' H' μ' u s l => h _ H' μ' u s (slRep_any l)
  | rt d S => exact h
  | exc x sd S => exact h.elim
  | stk => exact h.elim
theorem finS_plain {mg : Str → Option Value} {K : PySem.W.Frag} {μ : Mu} {H : Hp} {r : ResS} {D : Ends} (h : FinS mg K W μ H (plainS r) D) : FinS mg K W0 μ H r D := by
  cases r with
  | exc x sd S => exact h.elim
  | nx sd S => exact h
  | bk sd S => exact h
  | ct sd S => exact h
  | rt d S => exact h
  | stk => exact h
theorem wMix_of {hl : List ExceptHandler} {hs : List HCl} {l : List Clause} {x : Ex} {D : Ends} {S : List Cell} {sd : Sl} {μ : Mu} {H : Hp} {σ : St} {cls : Value} {d : Option Addr} (h : HsOk X tab hl hs l) (ss : StoRep X.mg X.K μ S H) (sl : SlRep X.K μ H sd σ) (ex : ExRep X.mg X.K μ H x cls d)
    (f : FinS X.mg X.K W μ H (mHd tab x hs sd S) D) : wMix X.K W D l cls d σ H := by
  induction h with
  | nil => exact f cls d σ H μ .refl ss sl ex
  | @only n c m st su p p' hl hs l hc ht hsu r ih =>
    unfold mHd at f
    cases ht1 : tab x.cls n with
    | none => rw [ht1] at f; exact f.elim
    | some b =>
      rw [ht1] at f
      refine ⟨b, ?_, fun hb a ha => ?_, fun hb => ?_⟩
      · obtain ⟨C, dd, fs, e1, e2, e3, _⟩ := ex
        rw [e1]
        exact ht _ _ ht1 C e3
      · subst hb
        exact ⟨x, μ, S, sd, ss, sl, ex, fun i z => (by cases z), finS_plain f⟩
      · subst hb
        exact ih f
  | @named n v i c m st su p p' hl hs l hc ht hi hk hsu r ih =>
    unfold mHd at f
    cases ht1 : tab x.cls n with
    | none => rw [ht1] at f; exact f.elim
    | some b =>
      rw [ht1] at f
      refine ⟨b, ?_, fun hb a ha => ?_, fun hb => ?_⟩
      · obtain ⟨C, dd, fs, e1, e2, e3, _⟩ := ex
        rw [e1]
        exact ht _ _ ht1 C e3
      · subst hb
        simp only at f
        split at f
        · rename_i hlt
          refine ⟨x, μ, S, sd.set i none, ss, slRep_any sl, ex, fun j z => ?_, finS_drop f⟩
          cases z
          rw [List.getElem?_set_self (by rw [← sl.len]; exact hlt)]
        · exact f.elim
      · subst hb
        exact ih f
theorem ss_try {body : List Stmt} {hd : ExceptHandler} {hl : List ExceptHandler} {hs : List HCl} {l : List Clause} {mb : MS} {pos : Pos} (hS : X.stack = X.env :: X.outer) (hF : X.env.frame = some X.env.locals) (hN : X.N.Nodup) (tk : Takes X W)
    (hb : ∀ (W : WX) (pn : List (Addr × Obj)) (xe : Value → Shared → Prop), Takes (X.tr pn xe) W → PassesOwn (model X.prog X.w) X.A X.env xe → SB (X.tr pn xe) W body mb)
    (hh : HsOk X tab (hd :: hl) hs l) : SS X W (.Try body (hd :: hl) [] [] pos) (mTry tab mb hs) := by
  refine (ps_try_mix (tb := fun W => tS (X.tr X.pn X.xe) W mb) hS hF hN tk (fun W pn xe t p => hb W pn xe t p) hh.clauses).impF fun D σ H ⟨μ, S, sd, ss, sl, f⟩ => ?_
  refine ⟨μ, S, sd, ss, sl, ?_⟩
  unfold mTry at f
  generalize mb sd S = r at f
  cases r with
  | nx sd1 S1 => exact f
  | rt d S1 => exact f
  | bk sd1 S1 => exact f
  | ct sd1 S1 => exact f
  | exc x sd1 S1 => exact fun cls dx σ' H' μ' u s l1 e => wMix_of hh s l1 e (FinS.up u f)
  | stk => exact f
/-- a suite that does not ask for the exception -/
theorem hd_plain {a : Addr} {oe : Obj} {pn : List (Addr × Obj)} {su : List Stmt} {m : MS} {oi : Option Nat} {cls : Value} {d : Option Addr} (h : SB (X.suite a ((a, oe) :: pn)) W0 su m) : PSs (X.suite a ((a, oe) :: pn)) su (tHd X.mg X.K oi (fun _ => m) a cls d) :=
  h.impF fun D σ H ⟨x, μ, S, sd, ss, sl, ex, hi, f⟩ => ⟨μ, S, sd, ss, sl, f⟩

/-! ### in a suite: return of constants, names and the exception's fields -/
def exGet (f : String) (x : Ex) : Option D := (x.fs.find? fun p => p.1 == f).map (·.2)
def pxC (d : D) : Ex → Sl → Option D := fun _ _ => some d
def pxV (j : Nat) : Ex → Sl → Option D := fun _ sd => match sd[j]? with | some (some d) => some d | _ => none
def pxF (cl : List String) (f : String) : Ex → Sl → Option D := fun x _ => if x.cls ∈ cl then exGet f x else none
def pxs0 : Ex → Sl → Option (List D) := fun _ _ => some []
def pxs1 (g : Ex → Sl → Option D) (gs : Ex → Sl → Option (List D)) : Ex → Sl → Option (List D) := fun x sd => (g x sd).bind fun y => (gs x sd).map fun ys => y :: ys
def tPX (mg : Str → Option Value) (K : PySem.W.Frag) (i : Nat) (a : Addr) (cls : Value) (d : Option Addr) (g : Ex → Sl → Option D) : TE := fun σ H Q =>
  ∃ x μ S sd dv, StoRep mg K μ S H ∧ SlRep K μ H sd σ ∧ ExRep mg K μ H x cls d ∧ σ[i]? = some (some (.ref a)) ∧ g x sd = some dv ∧ ∀ v, RepV K μ H dv v → Q v H
def tPXs (mg : Str → Option Value) (K : PySem.W.Frag) (i : Nat) (a : Addr) (cls : Value) (d : Option Addr) (g : Ex → Sl → Option (List D)) : TA := fun σ H Q =>
  ∃ x μ S sd dv, StoRep mg K μ S H ∧ SlRep K μ H sd σ ∧ ExRep mg K μ H x cls d ∧ σ[i]? = some (some (.ref a)) ∧ g x sd = some dv ∧ ∀ v, RepL K μ H dv v → Q v H
abbrev PX (X : Cx) (i : Nat) (a : Addr) (cls : Value) (d : Option Addr) (e : Expr) (g : Ex → Sl → Option D) : Prop := PE X e (tPX X.mg X.K i a cls d g)
abbrev PXs (X : Cx) (i : Nat) (a : Addr) (cls : Value) (d : Option Addr) (es : List Expr) (g : Ex → Sl → Option (List D)) : Prop := PA X es (tPXs X.mg X.K i a cls d g)
variable {i : Nat} {a : Addr} {cls : Value} {d : Option Addr}
theorem px_str {x j pos} : PX X i a cls d (.Constant (.str x) j pos) (pxC (.str x.cps.toList)) :=
  pe_str.impF fun σ H Q ⟨x', μ, S, sd, dv, ss, sl, ex, hi, e, q⟩ => by
    cases e
    refine q _ ?_
    have := RepV.str (K := X.K) (μ := μ) (H := H) x.cps.toList
    rwa [str_back] at this
theorem px_var (j : Nat) {x : Str} {pos : Pos} (hN : X.N[j]? = some x := by rfl) (hv : Vis X.env.scope x := by first | exact Or.inl rfl | exact Or.inr (Or.inl rfl) | exact Or.inr (Or.inr rfl)) (hd : (x == ("__debug__" : Str)) = false := by decide)
    (hcd : (x == ("__classdict__" : Str)) = false := by decide) : PX X i a cls d (.Name x pos) (pxV j) :=
  (pe_var hN hv hd hcd).impF fun σ H Q ⟨x', μ, S, sd, dv, ss, sl, ex, hi, e, q⟩ => by
    have e' : sd[j]? = some (some dv) := by
      have e : (match sd[j]? with | some (some d) => some d | _ => none) = some dv := e
      split at e
      · rename_i q'
        cases e
        exact q'
      · cases e
    obtain ⟨v, h1, r⟩ := sl.at_ j dv e'
    exact ⟨v, h1, q v r⟩
theorem lookup_rep {K : PySem.W.Frag} {μ : Mu} {H : Hp} {f : String} {dv : D} : ∀ {fx : List (String × D)} {fs : List (Str × V)}, fs.map (·.1) = fx.map (fun p => Str.ofString p.1) → RepL K μ H (fx.map (·.2)) (fs.map (·.2)) → (∀ g, Str.ofString g = Str.ofString f → g = f) →
    (fx.find? fun p => p.1 == f).map (·.2) = some dv → ∃ v, fs.lookup (Str.ofString f) = some v ∧ RepV K μ H dv v
  | [], _, _, _, _, e => by cases e
  | (g, x) :: fx, [], h1, _, _, _ => by cases h1
  | (g, x) :: fx, (k, y) :: fs, h1, h2, hj, e => by
    have k1 : k = Str.ofString g := (List.cons.inj h1).1
    have k2 := (List.cons.inj h1).2
    rw [lookup_put]
    cases h2 with
    | cons r1 r2 =>
      by_cases hg : g = f
      · subst hg
        rw [if_pos k1.symm]
        rw [List.find?_cons, show ((g, x).1 == g) = true from by simp] at e
        cases e
        exact ⟨y, rfl, r1⟩
      · rw [if_neg (fun z => hg (hj g ((z.trans k1).symm)))]
        rw [List.find?_cons, show ((g, x).1 == f) = false from by simpa using hg] at e
        exact lookup_rep k2 r2 hj e

/-- the classes whose fields may be read -/
def FieldsOk (mg : Str → Option Value) (K : PySem.W.Frag) (cl : List String) (f : String) : Prop := ∀ y ∈ cl, ∀ C, mg (Str.ofString y) = some (.ref C) → XfC K C ∧ PySem.W.findIn K (.ref C) (Str.ofString f) = some none
theorem px_field {oe : Obj} {pn : List (Addr × Obj)} {cl : List String} {f : String} {n : Str} {pos p : Pos} (hX : FieldsOk X.mg X.K cl f) (hj : ∀ g, Str.ofString g = Str.ofString f → g = f) (hz : Zc cls d oe) (hf : ∃ vs, oe.data = .fields vs)
    (hN : X.N[i]? = some n := by rfl) (hv : Vis X.env.scope n := by first | exact Or.inl rfl | exact Or.inr (Or.inl rfl) | exact Or.inr (Or.inr rfl)) (hd : (n == ("__debug__" : Str)) = false := by decide) (hcd : (n == ("__classdict__" : Str)) = false := by decide)
    (hb : attributeBase (.Name n p) (Str.ofString f) X.env (eval (.Name n p) X.env) = eval (.Name n p) X.env := by rfl) :
    PX (X.suite a ((a, oe) :: pn)) i a cls d (.Attribute (.Name n p) (Str.ofString f) pos) (pxF cl f) := by
  constructor
  intro pins s σ H Q I ⟨x, μ, S, sd, dv, ss, sl, ex, hi, e, q⟩
  obtain ⟨C, dd, fs, e1, e2, e3, e4, e5, e6⟩ := ex
  have e : (if x.cls ∈ cl then exGet f x else none) = some dv := e
  split at e
  · rename_i hm
    obtain ⟨T, hno⟩ := hX _ hm C e3
    obtain ⟨v, h1, r⟩ := lookup_rep e5 e6 hj e
    exact (pe_xf T hno hz hf (pe_var (X := X.suite a ((a, oe) :: pn)) (i := i) hN hv hd hcd) hb).run pins s σ H Q I ⟨.ref a, hi, rfl, e1, dd, fs, v, e2, e4, h1, q v r⟩
  · cases e
theorem pxs_nil : PXs X i a cls d [] pxs0 := pa_nil.impF fun σ H Q ⟨x, μ, S, sd, dv, ss, sl, ex, hi, e, q⟩ => by
  cases e
  exact q [] .nil
theorem pxs_cons {e : Expr} {es : List Expr} {g : Ex → Sl → Option D} {gs : Ex → Sl → Option (List D)} (he : PX X i a cls d e g) (hr : PXs X i a cls d es gs) (hst : starEach (e :: es) X.env = (false, eval e X.env) :: starEach es X.env := by rfl) :
    PXs X i a cls d (e :: es) (pxs1 g gs) := (pa_cons he hr hst).impF fun σ H Q ⟨x, μ, S, sd, dv, ss, sl, ex, hi, e, q⟩ => by
  obtain ⟨y, e1, e2⟩ := Option.bind_eq_some_iff.mp e
  obtain ⟨ys, e3, e4⟩ := Option.map_eq_some_iff.mp e2
  subst e4
  exact ⟨x, μ, S, sd, y, ss, sl, ex, hi, e1, fun v r => ⟨x, μ, S, sd, ys, ss, sl, ex, hi, e3, fun vs rs => q (v :: vs) (.cons r rs)⟩⟩
/-- return (..) -/
def retTx (gs : Ex → Sl → Option (List D)) : MH := fun x sd S => match gs x sd with | some ds => if ds.length ≤ sizeLine then .rt (.tup ds) S else .stk | none => .stk
/-- return e -/
def retX (g : Ex → Sl → Option D) : MH := fun x sd S => match g x sd with | some y => .rt y S | none => .stk
theorem hd_retT {es : List Expr} {gs : Ex → Sl → Option (List D)} {x1 pos pos'} (h : PXs X i a cls d es gs) : PSs X [.Return (some (.Tuple es x1 pos)) pos'] (tHd X.mg X.K (some i) (retTx gs) a cls d) :=
  (pss_one (ps_ret (pe_tup h))).impF fun D σ H ⟨x, μ, S, sd, ss, sl, ex, hi, f⟩ => by
    cases hg : gs x sd with
    | none =>
      have e : retTx gs x sd S = .stk := by unfold retTx; rw [hg]
      rw [e] at f
      exact f.elim
    | some ds =>
      by_cases hz : ds.length ≤ sizeLine
      · have e : retTx gs x sd S = .rt (.tup ds) S := by unfold retTx; rw [hg]; exact if_pos hz
        rw [e] at f
        refine ⟨x, μ, S, sd, ds, ss, sl, ex, hi i rfl, hg, fun vs r => ⟨by rw [← r.length]; exact hz, fun p hp => ?_⟩⟩
        exact f (.ref p) _ μ (up_tmp hp) (ss.tmp hp) (.tup (SqT.of upd_same) (r.up (up_tmp hp)))
      · have e : retTx gs x sd S = .stk := by unfold retTx; rw [hg]; exact if_neg hz
        rw [e] at f
        exact f.elim
theorem hd_ret {e : Expr} {g : Ex → Sl → Option D} {pos'} (h : PX X i a cls d e g) : PSs X [.Return (some e) pos'] (tHd X.mg X.K (some i) (retX g) a cls d) :=
  (pss_one (ps_ret h)).impF fun D σ H ⟨x, μ, S, sd, ss, sl, ex, hi, f⟩ => by
    cases hg : g x sd with
    | none =>
      have e : retX g x sd S = .stk := by unfold retX; rw [hg]
      rw [e] at f
      exact f.elim
    | some y =>
      have e : retX g x sd S = .rt y S := by unfold retX; rw [hg]
      rw [e] at f
      exact ⟨x, μ, S, sd, y, ss, sl, ex, hi i rfl, hg, fun v r => f v H μ .refl ss r⟩
end
end Fx

namespace Fx
open PySem PySem.Spec PyProof.Rows L2
/-! ### texts: str(), int(), join -/
def stS (x : List Nat) : Str := ⟨x.toArray⟩
def istr (i : Int) : List Nat := (Str.ofString (toString i)).cps.toList
def cLog (i : Int) : Bool := decide (i.natAbs.log2 < 1920)
def oStrC : OC := fun ds S => match ds with
  | [.int i] => if cLog i then .ok (.str (istr i)) S else .stk
  | [.str x] => .ok (.str x) S
  | _ => .stk
def oIntS : OC := fun ds S => match ds with
  | [.int i] => .ok (.int i) S
  | [.bl b] => .ok (.int (if b then 1 else 0)) S
  | [.str x] => match PySem.intText? (stS x) with
    | some n => if x.length ≤ 640 then .ok (.int n) S else .stk
    | none => .stk
  | _ => .stk
def strsD : List D → Option (List (List Nat))
  | [] => some []
  | .str x :: r => (strsD r).map (x :: ·)
  | _ :: _ => none
def joinS (a : List Nat) (ys : List (List Nat)) : List Nat := (Txt.join (stS a) (ys.map stS)).cps.toList
def mJoin (mo me : ME) : ME := fun sd S => (mo sd S).bind fun d S1 => match d with
  | .str a => (me sd S1).bind fun e S2 => match (seqD S2 e).bind strsD with
    | some ys => if (ys.map List.length).sum + ys.length * a.length ≤ 16777216 then .ok (.str (joinS a ys)) S2 else .stk
    | none => .stk
  | _ => .stk
section
variable {X : Cx} {W : WX} {μ : Mu} {S : List Cell} {H : Hp}
theorem rep_str {K : PySem.W.Frag} (x : Str) : RepV K μ H (.str x.cps.toList) (.str x) := by
  have := RepV.str (K := K) (μ := μ) (H := H) x.cps.toList
  rwa [str_back] at this
theorem cd_str : CallD X W (.type "str") oStrC := by
  refine ⟨_, call_str_int.or SkE.call_str_str, fun σ H μ S ds vs Q hs r h => ?_⟩
  unfold oStrC at h
  split at h
  · split at h
    · rename_i i hc
      obtain ⟨v, rfl, r1⟩ := r.one
      cases r1
      exact .inl ⟨i, rfl, of_decide_eq_true hc, h _ H μ .refl hs (rep_str _)⟩
    · exact h.elim
  · obtain ⟨v, rfl, r1⟩ := r.one
    cases r1
    exact .inr ⟨_, rfl, h _ H μ .refl hs (.str _)⟩
  · exact h.elim
theorem cd_intS : CallD X W (.type "int") oIntS := by
  refine ⟨_, call_int1.or call_int_str, fun σ H μ S ds vs Q hs r h => ?_⟩
  unfold oIntS at h
  split at h
  · obtain ⟨v, rfl, r1⟩ := r.one
    cases r1
    exact .inl (.inl ⟨_, rfl, h _ H μ .refl hs (.int _)⟩)
  · obtain ⟨v, rfl, r1⟩ := r.one
    cases r1
    exact .inl (.inr ⟨_, rfl, h _ H μ .refl hs (.int _)⟩)
  · obtain ⟨v, rfl, r1⟩ := r.one
    cases r1
    split at h
    · split at h
      · rename_i n e hz
        exact .inr ⟨_, n, rfl, e, by show Array.size _ ≤ _; simpa using hz, h _ H μ .refl hs (.int _)⟩
      · exact h.elim
    · exact h.elim
  · exact h.elim
theorem strsD_ok {K : PySem.W.Frag} : ∀ {ds : List D} {vs : List V} {ys : List (List Nat)}, RepL K μ H ds vs → strsD ds = some ys → vs = (ys.map stS).map V.str
  | [], _, _, r, e => by cases r; cases e; rfl
  | .str x :: ds, _, _, .cons (.str _) r, e => by
    obtain ⟨zs, e1, rfl⟩ := Option.map_eq_some_iff.mp e
    rw [strsD_ok r e1]
    rfl
  | .non :: _, _, _, _, e => by cases e
  | .bl _ :: _, _, _, _, e => by cases e
  | .int _ :: _, _, _, _, e => by cases e
  | .tup _ :: _, _, _, _, e => by cases e
  | .cst _ :: _, _, _, _, e => by cases e
  | .loc _ :: _, _, _, _, e => by cases e
  | .adr _ :: _, _, _, _, e => by cases e
  | .lam _ _ _ :: _, _, _, _, e => by cases e
theorem stS_len (y : List Nat) : (stS y).length = y.length := by show Array.size _ = _; simp [stS]
theorem se_join {o e : Expr} {mo me : ME} {apos pos : Pos} (ho : SE X W o mo) (he : SE X W e me) (hs : starEach [e] X.env = [(false, eval e X.env)] := by rfl) (hbase : attributeBase o "join" X.env (eval o X.env) = eval o X.env := by rfl) (hline : (apos.endLine == pos.line) = true := by rfl) :
    SE X W (.Call (.Attribute o "join" apos) [e] [] pos) (mJoin mo me) :=
  (pe_join ho he hs hbase hline).impF fun σ H Q ⟨μ, S, sd, hs, hl, h⟩ => tE_bind hs hl h fun d S1 μ1 v H1 s1 l1 u1 r1 h1 => by
    cases r1 with
    | str a =>
      refine ⟨⟨_, rfl⟩, tE_bind s1 l1 h1 fun e S2 μ2 v2 H2 s2 l2 u2 r2 h2 => ?_⟩
      split at h2
      · split at h2
        · rename_i ys ey hz
          obtain ⟨xs, e1, e2⟩ := Option.bind_eq_some_iff.mp ey
          obtain ⟨p, vs, rfl, hq, rl⟩ := s2.seqD r2 e1
          refine ⟨stS a, p, ys.map stS, rfl, rfl, ?_, ?_, h2 _ H2 μ2 .refl s2 (rep_str _)⟩
          · rw [← strsD_ok rl e2]
            exact hq
          · rw [List.map_map, List.length_map, stS_len, show (Str.length ∘ stS) = List.length from funext stS_len]
            exact hz
        · exact h2.elim
      · exact h2.elim
    | _ => exact h1.elim
/-- in place: ints, texts -/
def oAddS : O2 := fun d e S => match d, e with
  | .int i, .int j => .ok (.int (i + j)) S
  | .str x, .str y => if x.length + y.length ≤ sizeLine then .ok (.str (x ++ y)) S else .stk
  | _, _ => .stk
theorem od_iaddS : OpD X W (inplaceOp .Add) oAddS := by
  refine ⟨_, iop_add.or iop_add_str, fun σ H μ S d e x y Q hs rx ry h => ?_⟩
  unfold oAddS at h
  split at h
  · exact .inl ⟨_, _, rx.inv_int, ry.inv_int, h _ H μ .refl hs (.int _)⟩
  · split at h
    · rename_i hz
      refine .inr ⟨_, _, rx.inv_str, ry.inv_str, ?_, ?_⟩
      · show (List.toArray _).size + (List.toArray _).size ≤ _
        simpa using hz
      · rw [str_app]
        exact h _ H μ .refl hs (.str _)
    · exact h.elim
  · exact h.elim
end
end Fx

namespace Fx
open PySem PySem.Spec PyProof.Rows L2
/-! ### dicts whose keys are ints and texts -/
def keyD : D → Option Key
  | .int i => some (.inl i)
  | .str x => some (.inr (stS x))
  | _ => none
def getK (kvs : List (Key × D)) (k : Key) : Option D := (kvs.find? fun kv => decide (kv.1 = k)).map (·.2)
def putKD (kvs : List (Key × D)) (k : Key) (v : D) : List (Key × D) :=
  if (kvs.any fun kv => decide (kv.1 = k)) = true then kvs.map (fun kv => if kv.1 = k then (kv.1, v) else kv) else kvs ++ [(k, v)]
def mergeD (kvs more : List (Key × D)) : List (Key × D) := more.foldl (fun acc kv => putKD acc kv.1 kv.2) kvs
inductive KR (K : PySem.W.Frag) (μ : Mu) (H : Hp) : List (Key × D) → List (Key × V) → Prop
  | nil : KR K μ H [] []
  | cons {k : Key} {d : D} {v : V} {ds : List (Key × D)} {vs : List (Key × V)} : RepV K μ H d v → KR K μ H ds vs → KR K μ H ((k, d) :: ds) ((k, v) :: vs)
section
variable {K : PySem.W.Frag} {μ : Mu} {H : Hp}
theorem KR.of : ∀ {ds : List (Key × D)} {vs : List (Key × V)}, vs.map (·.1) = ds.map (·.1) → RepL K μ H (ds.map (·.2)) (vs.map (·.2)) → KR K μ H ds vs
  | [], [], _, _ => .nil
  | [], _ :: _, h, _ => by cases h
  | _ :: _, [], h, _ => by cases h
  | (k, d) :: ds, (j, v) :: vs, h, r => by
    have h1 : j = k := (List.cons.inj h).1
    subst h1
    cases r with
    | cons r1 r2 => exact .cons r1 (KR.of (List.cons.inj h).2 r2)
theorem KR.keys {ds : List (Key × D)} {vs : List (Key × V)} (r : KR K μ H ds vs) : vs.map (·.1) = ds.map (·.1) := by
  induction r with
  | nil => rfl
  | cons _ _ ih => exact congrArg _ ih
theorem KR.vals {ds : List (Key × D)} {vs : List (Key × V)} (r : KR K μ H ds vs) : RepL K μ H (ds.map (·.2)) (vs.map (·.2)) := by
  induction r with
  | nil => exact .nil
  | cons r1 _ ih => exact .cons r1 ih
theorem KR.length {ds : List (Key × D)} {vs : List (Key × V)} (r : KR K μ H ds vs) : vs.length = ds.length := by
  induction r with
  | nil => rfl
  | cons _ _ ih => exact congrArg _ ih
theorem KR.get {k : Key} {ds : List (Key × D)} {vs : List (Key × V)} (r : KR K μ H ds vs) : (∀ d, getK ds k = some d → ∃ v, valV vs k = some v ∧ RepV K μ H d v) ∧ (getK ds k = none → valV vs k = none) := by
  induction r with
  | nil => exact ⟨fun d h => by (cases h), fun _ => rfl⟩
  | @cons j d v ds vs r1 _ ih =>
    unfold getK valV at ih ⊢
    by_cases e : j = k
    · simp only [List.find?_cons, e, decide_true, Option.map_some]
      exact ⟨fun d' h => by cases h; exact ⟨v, rfl, r1⟩, fun h => by cases h⟩
    · simp only [List.find?_cons, e, decide_false]
      exact ih
theorem KR.any {k : Key} {ds : List (Key × D)} {vs : List (Key × V)} (r : KR K μ H ds vs) : (vs.any fun kv => decide (kv.1 = k)) = (ds.any fun kv => decide (kv.1 = k)) := by
  induction r with
  | nil => rfl
  | cons _ _ ih => simp only [List.any_cons, ih]
theorem KR.mapped {k : Key} {d : D} {v : V} {ds : List (Key × D)} {vs : List (Key × V)} (r : KR K μ H ds vs) (h : RepV K μ H d v) : KR K μ H (ds.map fun kv => if kv.1 = k then (kv.1, d) else kv) (vs.map fun kv => if kv.1 = k then (kv.1, v) else kv) := by
  induction r with
  | nil => exact .nil
  | @cons j e w ds vs r1 _ ih =>
    simp only [List.map_cons]
    by_cases e : j = k
    · simp only [e, if_true]
      exact .cons h ih
    · simp only [e, if_false]
      exact .cons r1 ih
theorem KR.snoc {k : Key} {d : D} {v : V} {ds : List (Key × D)} {vs : List (Key × V)} (r : KR K μ H ds vs) (h : RepV K μ H d v) : KR K μ H (ds ++ [(k, d)]) (vs ++ [(k, v)]) := by
  induction r with
  | nil => exact .cons h .nil
  | cons r1 _ ih => exact .cons r1 ih
theorem KR.put {k : Key} {d : D} {v : V} {ds : List (Key × D)} {vs : List (Key × V)} (r : KR K μ H ds vs) (h : RepV K μ H d v) : KR K μ H (putKD ds k d) (putK vs k v) := by
  unfold putKD putK
  rw [r.any]
  split
  · exact r.mapped h
  · exact r.snoc h
theorem KR.merge {more : List (Key × D)} {mw : List (Key × V)} (r : KR K μ H more mw) : ∀ {ds : List (Key × D)} {vs : List (Key × V)}, KR K μ H ds vs → KR K μ H (mergeD ds more) (mergeK vs mw) := by
  induction r with
  | nil => exact fun q => q
  | cons r1 _ ih => exact fun q => ih (q.put r1)
theorem keyD_ok {d : D} {v : V} {k : Key} (r : RepV K μ H d v) (h : keyD d = some k) : v = kV k := by
  cases r with
  | int i => cases h; rfl
  | str x => cases h; rfl
  | _ => cases h
end
def dicD (S : List Cell) (d : D) : Option (Nat × List (Key × D)) := match d with
  | .loc n => match S[n]? with
    | some (.dic kvs) => some (n, kvs)
    | _ => none
  | _ => none
section
variable {X : Cx} {W : WX} {μ : Mu} {S : List Cell} {H : Hp}
theorem dicD_ok {mg : Str → Option Value} {K : PySem.W.Frag} {d : D} {x : V} {n : Nat} {kvs : List (Key × D)} (hs : StoRep mg K μ S H) (r : RepV K μ H d x) (h : dicD S d = some (n, kvs)) :
    d = .loc n ∧ ∃ a ws, x = .ref a ∧ μ[n]? = some a ∧ H a = some (.dK ws) ∧ KR K μ H kvs ws := by
  unfold dicD at h
  split at h
  · rename_i n'
    split at h
    · rename_i kvs' e
      cases h
      cases r with
      | loc en =>
        obtain ⟨ws, h1, h2, h3⟩ := hs.at_ _ _ _ e en
        exact ⟨rfl, _, ws, rfl, en, h1, .of h2 h3⟩
    · cases h
  · cases h
/-- o[i] -/
def oIxA : O2 := fun d e S => match dicD S d with
  | some (_, kvs) => optR ((keyD e).bind fun k => getK kvs k) S
  | none => oIx d e S
theorem ix_dict (hu : X.A.units + 1 < cLine) : IxR X (fun x y H Q => ∃ a v, x = .ref a ∧ DGet H a y (some v) ∧ Q v H) := by
  intro value slice pins s σ H x y v u Q I rx ry ⟨a, w, ex, g, q⟩ hs
  subst ex
  obtain rfl : v = Value.ref a := rx
  exact PyProof.Rows.tail_any (dict_typeIs I g) PySem.F.slot_dict_getitem.lookup (d_getItem hu I g ry fun w' s3 I3 rw' => ⟨w, H, I3, rw', q⟩) hs
theorem se_ixA {a b : Expr} {ma mb : ME} {pos : Pos} (hu : X.A.units + 64 < cLine) (ha : SE X W a ma) (hb : SE X W b mb) (hp : PlainIx b := by intro _ _; rfl) : SE X W (.Subscript a b pos) (mBin oIxA ma mb) := by
  refine (pe_ix (ix_seq.or (ix_dict (by omega))) ha hb hp).impF (bin_of ha hb fun σ H μ S d e x y Q hs rx ry h => ?_)
  unfold oIxA at h
  split at h
  · rename_i n kvs ed
    unfold optR at h
    split at h
    · rename_i w ew
      obtain ⟨k, e1, e2⟩ := Option.bind_eq_some_iff.mp ew
      obtain ⟨rfl, p, ws, rfl, en, hp, kr⟩ := dicD_ok hs rx ed
      obtain ⟨v, hv, rv⟩ := kr.get.1 w e2
      refine .inr ⟨p, v, rfl, ?_, h _ H μ .refl hs rv⟩
      rw [keyD_ok ry e1, ← hv]
      exact DGet.k hp
    · exact h.elim
  · exact .inl (ix_old hs rx ry h)
/-- k in o -/
def oInA : O2 := fun d e S => match dicD S e with
  | some (_, kvs) => (match keyD d with | some k => .ok (.bl (getK kvs k).isSome) S | none => .stk)
  | none => oIn d e S
def oNotInA : O2 := fun d e S => match dicD S e with
  | some (_, kvs) => (match keyD d with | some k => .ok (.bl (!(getK kvs k).isSome)) S | none => .stk)
  | none => oNotIn d e S
theorem op_din (hu : X.A.units + 1 < cLine) : OpR X (compareOp .In) (fun x y H Q => ∃ a o, y = .ref a ∧ DGet H a x o ∧ Q (.bl o.isSome) H) := by
  intro pins s σ H x y v u Q I rx ry ⟨a, o, ey, g, q⟩
  subst ey
  obtain rfl : u = Value.ref a := ry
  exact d_in hu I g rx fun s3 I3 => ⟨.bl o.isSome, H, I3, rfl, q⟩
theorem op_dnotIn (hu : X.A.units + 1 < cLine) : OpR X (compareOp .NotIn) (fun x y H Q => ∃ a o, y = .ref a ∧ DGet H a x o ∧ Q (.bl (!o.isSome)) H) := by
  intro pins s σ H x y v u Q I rx ry ⟨a, o, ey, g, q⟩
  subst ey
  obtain rfl : u = Value.ref a := ry
  exact d_notIn hu I g rx fun s3 I3 => ⟨.bl (!o.isSome), H, I3, rfl, q⟩
theorem isSome_get {K : PySem.W.Frag} {k : Key} {ds : List (Key × D)} {vs : List (Key × V)} (r : KR K μ H ds vs) : (valV vs k).isSome = (getK ds k).isSome := by
  cases h : getK ds k with
  | none => rw [r.get.2 h]; rfl
  | some d => obtain ⟨v, hv, _⟩ := r.get.1 d h; rw [hv]; rfl
theorem od_inA (hu : X.A.units + 64 < cLine) : OpD X W (compareOp .In) oInA := by
  obtain ⟨r, h1, h2⟩ := od_in (X := X) (W := W)
  refine ⟨_, h1.or (op_din (by omega)), fun σ H μ S d e x y Q hs rx ry h => ?_⟩
  unfold oInA at h
  split at h
  · rename_i n kvs ed
    split at h
    · rename_i k ek
      obtain ⟨rfl, p, ws, rfl, en, hp, kr⟩ := dicD_ok hs ry ed
      refine .inr ⟨p, valV ws k, rfl, ?_, ?_⟩
      · rw [keyD_ok rx ek]
        exact DGet.k hp
      · rw [isSome_get kr]
        exact h _ H μ .refl hs (.bl _)
    · exact h.elim
  · exact .inl (h2 σ H μ S d e x y Q hs rx ry h)
theorem od_notInA (hu : X.A.units + 64 < cLine) : OpD X W (compareOp .NotIn) oNotInA := by
  obtain ⟨r, h1, h2⟩ := od_notIn (X := X) (W := W)
  refine ⟨_, h1.or (op_dnotIn (by omega)), fun σ H μ S d e x y Q hs rx ry h => ?_⟩
  unfold oNotInA at h
  split at h
  · rename_i n kvs ed
    split at h
    · rename_i k ek
      obtain ⟨rfl, p, ws, rfl, en, hp, kr⟩ := dicD_ok hs ry ed
      refine .inr ⟨p, valV ws k, rfl, ?_, ?_⟩
      · rw [keyD_ok rx ek]
        exact DGet.k hp
      · rw [isSome_get kr]
        exact h _ H μ .refl hs (.bl _)
    · exact h.elim
  · exact .inl (h2 σ H μ S d e x y Q hs rx ry h)
end
end Fx
namespace Fx
open PySem PySem.Spec PyProof.Rows L2
section
variable {X : Cx} {W : WX} {μ : Mu} {S : List Cell} {H : Hp}
theorem set_dict (hu : X.A.units + 1 < cLine) : PSet X (fun o i v H Q => ∃ a H4, o = .ref a ∧ DPut H a i v H4 ∧ Q H4) := by
  intro pins s σ H o i v ov iv u Q I ro ri rv ⟨a, H4, eo, g, q⟩
  subst eo
  obtain rfl : ov = Value.ref a := ro
  exact d_setItem hu I g ri rv fun s4 I4 => ⟨H4, I4, q⟩
theorem PSet.orF {t t' : TSet} (h : PSet X t) (h' : PSet X t') : PSet X (fun o i v H Q => t o i v H Q ∨ t' o i v H Q) := fun pins s σ H o i v ov iv u Q I ro ri rv q => q.elim (h pins s σ H o i v ov iv u Q I ro ri rv) (h' pins s σ H o i v ov iv u Q I ro ri rv)
/-- o[i] = v, of a list or a dict -/
def setD (d e v : D) (S : List Cell) : Option (List Cell) := match dicD S d with
  | some (n, kvs) => (match keyD e with
    | some k => if kvs.length < sizeLine then some (S.set n (.dic (putKD kvs k v))) else none
    | none => none)
  | none => match d, e with
    | .loc n, .int k => (match mlst S n with
      | some xs => (match ixN xs.length k with
        | some j => some (S.set n (.lst (xs.set j v)))
        | none => none)
      | none => none)
    | _, _ => none
theorem setD_ok {mg : Str → Option Value} {K : PySem.W.Frag} {d e v : D} {S' : List Cell} {x y z : V} (hs : StoRep mg K μ S H) (rx : RepV K μ H d x) (ry : RepV K μ H e y) (rv : RepV K μ H v z) (h : setD d e v S = some S') :
    ∃ H', (rSetL x y z H (fun H2 => H2 = H') ∨ ∃ a H4, x = .ref a ∧ DPut H a y z H4 ∧ H4 = H') ∧ Up μ H μ H' ∧ StoRep mg K μ S' H' := by
  unfold setD at h
  split at h
  · rename_i n kvs ed
    split at h
    · rename_i k ek
      split at h
      · rename_i hz
        cases h
        obtain ⟨rfl, p, ws, rfl, en, hp, kr⟩ := dicD_ok hs rx ed
        have m1 : ∀ xs, H p ≠ some (.tup xs) := fun xs q => by rw [hp] at q; cases q
        have m2 : ∀ o u, H p ≠ some (.frz o u) := fun o u q => by rw [hp] at q; cases q
        have m3 : ∀ o, H p ≠ some (.ext o) := fun o q => by rw [hp] at q; cases q
        have up := up_mut (o := .dK (putK ws k z)) (List.mem_of_getElem? en) m1 m2 m3
        refine ⟨_, .inr ⟨p, _, rfl, ?_, rfl⟩, up, hs.mut en m1 m2 m3 ?_⟩
        · rw [keyD_ok ry ek]
          exact DPut.k hp (by rw [kr.length]; exact hz)
        · have kr2 := kr.put (k := k) rv
          exact ⟨_, upd_same, kr2.keys, kr2.vals.up up⟩
      · cases h
    · cases h
  · split at h
    · rename_i n k _
      split at h
      · rename_i xs e1
        split at h
        · rename_i j ej
          cases h
          cases rx with
          | @loc _ p en =>
            obtain ⟨vs, hv, rl⟩ := mlst_ok hs en e1
            have up := up_put (μ := μ) (o := .lst (vs.set j z)) (List.mem_of_getElem? en) hv
            exact ⟨_, .inl ⟨p, vs, k, j, rfl, ry.inv_int, hv, by rw [← rl.length]; exact ej, rfl⟩, up, hs.put en hv (rl.set rv j)⟩
        · cases h
      · cases h
    · cases h
def gSubA (o i : ME) : MG := fun v sd S => (o sd S).bind fun d S1 => (i sd S1).bind fun e S2 => match setD d e v S2 with | some S3 => .ok sd S3 | none => .stk
theorem sg_subA {o i : Expr} {mo mi : ME} {pos : Pos} (hu : X.A.units + 64 < cLine) (ho : SE X W o mo) (hi : SE X W i mi)
    (ha : ∀ v, assign (.Subscript o i pos) X.env v = (do
      let ov ← holding [v] (eval o X.env)
      let iv ← holding [v, ov] (eval i X.env)
      standAt pos
      holding [v, ov, iv] (setItem ov iv v)
      release [v, ov, iv] []) := by intro _; rfl) : SG X W (.Subscript o i pos) (gSubA mo mi) :=
  (pg_sub ho hi (PSet.orF set_list (set_dict (by omega))) ha).impF fun v σ H Q ⟨μ, S, sd, d, hs, hl, r, h⟩ => tE_bindG hs hl h fun d1 S1 μ1 v1 H1 hs1 hl1 u1 r1 h1 => tE_bindG hs1 hl1 h1 fun d2 S2 μ2 v2 H2 hs2 hl2 u2 r2 h2 => by
    split at h2
    · rename_i S3 e3
      obtain ⟨H', q, up, hs3⟩ := setD_ok hs2 (r1.up u2) r2 ((r.up u1).up u2) e3
      have fin : Q σ H' := h2 σ _ μ2 up hs3 (hl2.up up)
      rcases q with ⟨p, xs, k, j, a1, a2, a3, a4, a5⟩ | ⟨a, H4, a1, a2, a3⟩
      · exact .inl ⟨p, xs, k, j, a1, a2, a3, a4, by rw [a5]; exact fin⟩
      · exact .inr ⟨a, H4, a1, a2, by rw [a3]; exact fin⟩
    · exact h2.elim
/-- o.get(e, f) -/
def mGet2 (o e f : ME) : ME := fun sd S => (o sd S).bind fun d S1 => match dicD S1 d with
  | some _ => (e sd S1).bind fun k S2 => (f sd S2).bind fun z S3 => (match dicD S3 d, keyD k with
    | some (_, kvs), some k => .ok ((getK kvs k).getD z) S3
    | _, _ => .stk)
  | none => .stk
def mGet1 (o e : ME) : ME := fun sd S => (o sd S).bind fun d S1 => match dicD S1 d with
  | some _ => (e sd S1).bind fun k S2 => (match dicD S2 d, keyD k with
    | some (_, kvs), some k => .ok ((getK kvs k).getD .non) S2
    | _, _ => .stk)
  | none => .stk
theorem getD_rep {K : PySem.W.Frag} {k : Key} {ds : List (Key × D)} {vs : List (Key × V)} {z : D} {w : V} (r : KR K μ H ds vs) (rz : RepV K μ H z w) : RepV K μ H ((getK ds k).getD z) ((valV vs k).getD w) := by
  cases h : getK ds k with
  | none => rw [r.get.2 h]; exact rz
  | some d => obtain ⟨v, hv, rv⟩ := r.get.1 d h; rw [hv]; exact rv
theorem isD_of {mg : Str → Option Value} {K : PySem.W.Frag} {d : D} {x : V} {p : Nat × List (Key × D)} (hs : StoRep mg K μ S H) (r : RepV K μ H d x) (h : dicD S d = some p) : ∃ a, x = .ref a ∧ IsD H a := by
  obtain ⟨n, kvs⟩ := p
  obtain ⟨_, a, ws, rfl, _, hp, _⟩ := dicD_ok hs r h
  exact ⟨a, rfl, .inl ⟨ws, .inl hp⟩⟩
theorem se_get2 {o e f : Expr} {mo me mf : ME} {apos cpos : Pos} (hu : X.A.units + 64 < cLine) (ho : SE X W o mo) (he : SE X W e me) (hf : SE X W f mf)
    (m : M2 X o "get" apos e f cpos := by exact ⟨rfl, rfl, rfl, rfl⟩) : SE X W (.Call (.Attribute o "get" apos) [e, f] [] cpos) (mGet2 mo me mf) :=
  (pe_dget2 (by omega) ho he hf m).impF fun σ H Q ⟨μ, S, sd, hs, hl, h⟩ => tE_bind hs hl h fun d S1 μ1 x H1 s1 l1 u1 r1 h1 => by
    split at h1
    · rename_i p ed
      obtain ⟨a, rfl, hd⟩ := isD_of s1 r1 ed
      refine ⟨a, rfl, hd, tE_bind s1 l1 h1 fun k S2 μ2 y H2 s2 l2 u2 r2 h2 => tE_bind s2 l2 h2 fun z S3 μ3 w H3 s3 l3 u3 r3 h3 => ?_⟩
      split at h3
      · rename_i n kvs k' e1 e2
        obtain ⟨_, b, ws, eb, en, hp, kr⟩ := dicD_ok s3 ((r1.up u2).up u3) e1
        cases eb
        refine ⟨valV ws k', ?_, h3 _ H3 μ3 .refl s3 (getD_rep kr r3)⟩
        rw [keyD_ok (r2.up u3) e2]
        exact DGet.k hp
      · exact h3.elim
    · exact h1.elim
theorem se_get1 {o e : Expr} {mo me : ME} {apos cpos : Pos} (hu : X.A.units + 64 < cLine) (ho : SE X W o mo) (he : SE X W e me)
    (m : M1 X o "get" apos e cpos := by exact ⟨rfl, rfl, rfl, rfl⟩) : SE X W (.Call (.Attribute o "get" apos) [e] [] cpos) (mGet1 mo me) :=
  (pe_dget1 (by omega) ho he m).impF fun σ H Q ⟨μ, S, sd, hs, hl, h⟩ => tE_bind hs hl h fun d S1 μ1 x H1 s1 l1 u1 r1 h1 => by
    split at h1
    · rename_i p ed
      obtain ⟨a, rfl, hd⟩ := isD_of s1 r1 ed
      refine ⟨a, rfl, hd, tE_bind s1 l1 h1 fun k S2 μ2 y H2 s2 l2 u2 r2 h2 => ?_⟩
      split at h2
      · rename_i n kvs k' e1 e2
        obtain ⟨_, b, ws, eb, en, hp, kr⟩ := dicD_ok s2 (r1.up u2) e1
        cases eb
        refine ⟨valV ws k', ?_, h2 _ H2 μ2 .refl s2 (getD_rep kr .non)⟩
        rw [keyD_ok r2 e2]
        exact DGet.k hp
      · exact h2.elim
    · exact h1.elim
end
end Fx
namespace Fx
open PySem PySem.Spec PyProof.Rows L2
/-! ### dict displays -/
abbrev MP := List (ME × ME)
def mPairs : MP → Sl → List Cell → Res (List (D × D))
  | [], _, S => .ok [] S
  | (a, b) :: r, sd, S => (a sd S).bind fun d S1 => (b sd S1).bind fun e S2 => (mPairs r sd S2).bind fun l S3 => .ok ((d, e) :: l) S3
def keysD : List (D × D) → Option (List (Key × D))
  | [] => some []
  | (d, e) :: r => (keyD d).bind fun k => (keysD r).map fun l => (k, e) :: l
def mDict (ps : MP) : ME := fun sd S => (mPairs ps sd S).bind fun l S1 => match keysD l with
  | some kvs => if kvs.length ≤ 15 then .ok (.loc S1.length) (S1 ++ [.dic (mergeD [] kvs)]) else .stk
  | none => .stk
inductive RepP (K : PySem.W.Frag) (μ : Mu) (H : Hp) : List (D × D) → List (V × V) → Prop
  | nil : RepP K μ H [] []
  | cons {d e : D} {v w : V} {ds : List (D × D)} {vs : List (V × V)} : RepV K μ H d v → RepV K μ H e w → RepP K μ H ds vs → RepP K μ H ((d, e) :: ds) ((v, w) :: vs)
theorem RepP.up {K : PySem.W.Frag} {μ μ' : Mu} {H H' : Hp} {ds : List (D × D)} {vs : List (V × V)} (r : RepP K μ H ds vs) (u : Up μ H μ' H') : RepP K μ' H' ds vs := by
  induction r with
  | nil => exact .nil
  | cons a b _ ih => exact .cons (a.up u) (b.up u) ih
theorem keysD_ok {K : PySem.W.Frag} {μ : Mu} {H : Hp} {ds : List (D × D)} {vs : List (V × V)} (r : RepP K μ H ds vs) : ∀ {kvs : List (Key × D)}, keysD ds = some kvs → ∃ ws : List (Key × V), vs = ws.map (fun kv => (kV kv.1, kv.2)) ∧ KR K μ H kvs ws := by
  induction r with
  | nil => intro kvs h; cases h; exact ⟨[], rfl, .nil⟩
  | cons a b _ ih =>
    intro kvs h
    obtain ⟨k, e1, e2⟩ := Option.bind_eq_some_iff.mp h
    obtain ⟨l, e3, rfl⟩ := Option.map_eq_some_iff.mp e2
    obtain ⟨ws, e4, kr⟩ := ih e3
    refine ⟨(k, _) :: ws, ?_, .cons b kr⟩
    rw [e4, keyD_ok a e1]
    rfl
section
variable {X : Cx} {W : WX}
def trsOf (X : Cx) (W : WX) (ms : MP) : List (TE × TE) := ms.map fun p => (tE X W p.1, tE X W p.2)
inductive PPm (X : Cx) (W : WX) : List (Option Expr) → List Expr → MP → Prop
  | nil : PPm X W [] [] []
  | cons {k v : Expr} {ks : List (Option Expr)} {vs : List Expr} {a b : ME} {r : MP} (hk : SE X W k a) (hv : SE X W v b) (hr : PPm X W ks vs r) : PPm X W (some k :: ks) (v :: vs) ((a, b) :: r)
theorem PPm.pps {ks : List (Option Expr)} {vs : List Expr} {ms : MP} {pos : Pos} (h : PPm X W ks vs ms) : PPs X pos ks vs (trsOf X W ms) := by
  induction h with
  | nil => exact pps_nil
  | cons hk hv _ ih => exact pps_cons hk hv ih
theorem PPm.shape {ks : List (Option Expr)} {vs : List Expr} {ms : MP} (h : PPm X W ks vs ms) : ks.all (·.isSome) = true ∧ ks.length = vs.length := by
  induction h with
  | nil => exact ⟨rfl, rfl⟩
  | cons hk hv _ ih => exact ⟨by rw [List.all_cons, ih.1]; rfl, congrArg (· + 1) ih.2⟩
theorem tPairs_of {α : Type} {δ : Type} {Rep' : Mu → Hp → α → δ → Prop} : ∀ (ms : MP) {f : List (D × D) → List Cell → Res α} {σ : St} {H : Hp} {μ : Mu} {S : List Cell} {sd : Sl} {Q : δ → Hp → Prop} {Q' : List (V × V) → Hp → Prop}, StoRep X.mg X.K μ S H → SlRep X.K μ H sd σ →
    FinA X.mg X.K Rep' (fun c d H' => W c d σ H') μ H ((mPairs ms sd S).bind f) Q →
    (∀ l S' μ' vs H', StoRep X.mg X.K μ' S' H' → SlRep X.K μ' H' sd σ → Up μ H μ' H' → RepP X.K μ' H' l vs → FinA X.mg X.K Rep' (fun c d H' => W c d σ H') μ' H' (f l S') Q → Q' vs H') → tPairs (trsOf X W ms) σ H Q'
  | [], f, σ, H, μ, S, sd, Q, Q', hs, hl, h, k => k [] S μ [] H hs hl .refl .nil h
  | (a, b) :: r, f, σ, H, μ, S, sd, Q, Q', hs, hl, h, k => by
    have h : FinA X.mg X.K Rep' (fun c d H' => W c d σ H') μ H ((a sd S).bind fun d S1 => (b sd S1).bind fun e S2 => (mPairs r sd S2).bind fun l S3 => f ((d, e) :: l) S3) Q := by
      have e : (mPairs ((a, b) :: r) sd S).bind f = (a sd S).bind fun d S1 => (b sd S1).bind fun e S2 => (mPairs r sd S2).bind fun l S3 => f ((d, e) :: l) S3 := by
        show ((a sd S).bind _).bind f = _
        cases a sd S with
        | ok d S1 =>
          show ((b sd S1).bind _).bind f = (b sd S1).bind _
          cases b sd S1 with
          | ok e S2 =>
            show ((mPairs r sd S2).bind _).bind f = (mPairs r sd S2).bind _
            cases mPairs r sd S2 <;> rfl
          | exc x S2 => rfl
          | stk => rfl
        | exc x S1 => rfl
        | stk => rfl
      rw [← e]
      exact h
    exact tE_bind hs hl h fun d S1 μ1 v H1 s1 l1 u1 r1 h1 => tE_bind s1 l1 h1 fun e S2 μ2 w H2 s2 l2 u2 r2 h2 => tPairs_of r s2 l2 h2 fun l S3 μ3 vs H3 s3 l3 u3 r3 h3 => k _ S3 μ3 _ H3 s3 l3 ((u1.trans u2).trans u3) (.cons ((r1.up u2).up u3) (r2.up u3) r3) h3
open Classical in
theorem se_dict {ks : List (Option Expr)} {vs : List Expr} {ms : MP} {pos : Pos} (h : PPm X W ks vs ms) (h0 : ks ≠ [] := by exact List.cons_ne_nil _ _) (h15 : ks.length ≤ 15 := by decide) : SE X W (.Dict ks vs pos) (mDict ms) :=
  (pe_disp h.pps h.shape.1 h.shape.2 h0 h15).impF fun σ H Q ⟨μ, S, sd, hs, hl, h⟩ => fun p hp => by
    have h : FinA X.mg X.K (RepV X.K) (fun c d H' => W c d σ H') μ H ((mPairs ms sd S).bind fun l S1 => match keysD l with
      | some kvs => if kvs.length ≤ 15 then .ok (.loc S1.length) (S1 ++ [.dic (mergeD [] kvs)]) else .stk
      | none => .stk) Q := h
    generalize hr : mPairs ms sd S = r at h
    cases r with
    | stk => exact h.elim
    | exc x S1 =>
      refine tPairs_of (α := Unit) (δ := Unit) (Rep' := fun _ _ _ _ => True) (f := fun _ _ => .stk) (Q := fun _ _ => True) (μ := μ) ms (hs.tmp hp) (hl.up (up_tmp hp)) ?_ fun l S1 μ1 ws H1 s1 l1 u1 r1 h1 => h1.elim
      rw [hr]
      exact fun c dx H' μ' u s e => h c dx H' μ' ((up_tmp hp).trans u) s e
    | ok l0 S0 =>
      refine tPairs_of (α := Unit) (δ := Unit) (Rep' := fun _ _ _ _ => True) (f := fun l S => if l = l0 ∧ S = S0 then .ok () S else .stk) (Q := fun _ _ => True) (μ := μ) ms (hs.tmp hp) (hl.up (up_tmp hp)) ?_ fun l S1 μ1 ws H1 s1 l1 u1 r1 h1 => ?_
      · rw [hr]
        show FinA _ _ _ _ _ _ (if l0 = l0 ∧ S0 = S0 then _ else _) _
        rw [if_pos ⟨rfl, rfl⟩]
        exact fun _ _ _ _ _ _ => True.intro
      have off : p ∉ μ := hs.new hp
      have e1 : H1 p = some (.dK []) := u1.rest p _ upd_same off
      refine ⟨e1, ?_⟩
      split at h1
      · rename_i hq
        obtain ⟨rfl, rfl⟩ := hq
        have h : FinA X.mg X.K (RepV X.K) (fun c d H' => W c d σ H') μ H (match keysD l with
          | some kvs => if kvs.length ≤ 15 then .ok (.loc S1.length) (S1 ++ [.dic (mergeD [] kvs)]) else .stk
          | none => .stk) Q := h
        split at h
        · rename_i kvs ek
          split at h
          · rename_i hz
            obtain ⟨zs, e2, kr⟩ := keysD_ok r1 ek
            refine ⟨zs, e2, by rw [kr.length]; exact hz, ?_⟩
            have hn : p ∉ μ1 := u1.off (b := p) (o := .dK []) upd_same off
            have m1 : ∀ xs, H1 p ≠ some (.tup xs) := fun xs q => by rw [e1] at q; cases q
            have m2 : ∀ o u, H1 p ≠ some (.frz o u) := fun o u q => by rw [e1] at q; cases q
            have m3 : ∀ o, H1 p ≠ some (.ext o) := fun o q => by rw [e1] at q; cases q
            have upr : UpR μ1 H1 (μ1 ++ [p]) (upd H1 p (.dK (mergeK [] zs))) := {
              mu := fun n a e => by rw [List.getElem?_append_left (List.getElem?_eq_some_iff.mp e).1]; exact e
              tup := fun b xs q => by rw [upd_ne (fun z => m1 xs (by rw [← z]; exact q))]; exact q
              frz := fun b x u q => by rw [upd_ne (fun z => m2 x u (by rw [← z]; exact q))]; exact q
              ext := fun b x q => by rw [upd_ne (fun z => m3 x (by rw [← z]; exact q))]; exact q }
            have u0 : Up μ H μ1 H1 := (up_tmp hp).trans u1
            have up : Up μ H (μ1 ++ [p]) (upd H1 p (.dK (mergeK [] zs))) := {
              toUpR := u0.toUpR.trans upr
              rest := fun b o q hb => by rw [upd_ne (ne_of_none q hp)]; exact u0.rest b o q hb
              fresh := fun b hb => by
                rcases List.mem_append.mp hb with hb | hb
                · exact u0.fresh b hb
                · rw [List.mem_singleton.mp hb]; exact .inr hp }
            have kr2 := kr.merge (ds := []) (vs := []) .nil
            refine h (.ref p) _ _ up ⟨?_, ?_, fun n c a g1 g2 => ?_⟩ (.loc (by rw [← s1.len]; simp))
            · rw [List.nodup_append]
              refine ⟨s1.nd, by simp, fun x hx y hy e => ?_⟩
              rw [List.mem_singleton] at hy
              subst hy; subst e
              exact hn hx
            · simp [s1.len]
            · by_cases hlt : n < S1.length
              · have g1' : S1[n]? = some c := by rw [← g1, List.getElem?_append_left hlt]
                have g2' : μ1[n]? = some a := by rw [← g2, List.getElem?_append_left (by rw [s1.len]; exact hlt)]
                exact (s1.at_ n c a g1' g2').keep upr (upd_ne fun z => hn (by rw [← z]; exact List.mem_of_getElem? g2'))
              · have hn' : n = S1.length := by
                  have := (List.getElem?_eq_some_iff.mp g1).1
                  simp at this; omega
                subst hn'
                have z1 : Cell.dic (mergeD [] kvs) = c := by simpa using g1
                have z2 : p = a := by
                  have := s1.len
                  rw [← this] at g2; simpa using g2
                subst z1; subst z2
                exact ⟨_, upd_same, kr2.keys, kr2.vals.upR upr⟩
          · exact h.elim
        · exact h.elim
      · exact h1.elim
def mDict0 : ME := fun _ S => .ok (.loc S.length) (S ++ [.dic []])
theorem se_dict0 {pos : Pos} : SE X W (.Dict [] [] pos) mDict0 :=
  pe_dnewK.impF fun σ H Q ⟨μ, S, sd, hs, hl, h⟩ => fun p hp => h (.ref p) _ (μ ++ [p]) (up_new hp) (hs.alloc hp ⟨[], upd_same, rfl, .nil⟩) (.loc (by rw [← hs.len]; simp))
/-- len, of a dict too -/
def oLenA : OC := fun ds S => match ds with
  | [d] => (match dicD S d with | some (_, kvs) => .ok (.int kvs.length) S | none => oLen ds S)
  | _ => .stk
theorem cd_lenA : CallD X W (.builtin "len") oLenA := by
  obtain ⟨r, h1, h2⟩ := cd_len (X := X) (W := W)
  refine ⟨_, h1.or call_lenD, fun σ H μ S ds vs Q hs rl h => ?_⟩
  unfold oLenA at h
  split at h
  · split at h
    · rename_i n kvs ed
      obtain ⟨v, rfl, r1⟩ := rl.one
      obtain ⟨_, a, ws, rfl, _, hp, kr⟩ := dicD_ok hs r1 ed
      exact .inr ⟨a, ws, rfl, hp, by rw [kr.length]; exact h _ H μ .refl hs (.int _)⟩
    · exact .inl (h2 σ H μ S _ vs Q hs rl h)
  · exact h.elim
end
end Fx

namespace PySem
theorem fx_lt_bi (a : Bool) (b : Int) (u : Tok) : Gives (Builtin.«int.__lt__» ⟨[.bool a, .int b u], []⟩) (.val (Value.bool (decide ((if a = true then (1 : Int) else 0) < b)))) :=
  .of_wp fun M A E s Q h => by obtain ⟨hp, g, d, tk, os⟩ := s; wp_walk; exact ⟨_, rfl, h⟩
theorem fx_gt_bi (a : Bool) (b : Int) (u : Tok) : Gives (Builtin.«int.__gt__» ⟨[.bool a, .int b u], []⟩) (.val (Value.bool (decide ((if a = true then (1 : Int) else 0) > b)))) :=
  .of_wp fun M A E s Q h => by obtain ⟨hp, g, d, tk, os⟩ := s; wp_walk; exact ⟨_, rfl, h⟩
section
variable {prog : Program} {w : World} {A : Around} {E : Value → Shared → Prop} {s : Shared}
theorem fx_lt_int_bool {a : Int} {t : Tok} {b : Bool} {Q : Value → Shared → Prop} (h : Q (.bool (decide (a < (if b = true then (1 : Int) else 0)))) s) : wpAny (model prog w) A (compareOp .Lt (.int a t) (.bool b)) Q E s :=
  SeqAt.rc_sub_first_or (op := .Lt) (typeIs_int s a t) rfl (by decide) F.sub_bool_int F.slot_bool_gt_refl (call_gives F.slot_bool_gt_refl rfl F.entry_int_gt (F.args_int_gt_2 _ _) (fx_gt_bi b a t) ⟨nofun, h⟩) (.inl rfl)
theorem fx_lt_bool_int {a : Bool} {b : Int} {u : Tok} {Q : Value → Shared → Prop} (h : Q (.bool (decide ((if a = true then (1 : Int) else 0) < b))) s) : wpAny (model prog w) A (compareOp .Lt (.bool a) (.int b u)) Q E s :=
  SeqAt.rc_left_or (op := .Lt) rfl (typeIs_int s b u) (by decide) F.sub_int_bool F.slot_bool_lt (call_gives F.slot_bool_lt rfl F.entry_int_lt (F.args_int_lt_2 _ _) (fx_lt_bi a b u) ⟨nofun, h⟩) (.inl rfl)
end
end PySem
namespace Fx
open PySem PySem.Spec PyProof.Rows L2
section
variable {X : Cx} {W : WX}
def bi (b : Bool) : Int := if b = true then 1 else 0
def oLtB : O2 := fun d e S => match d, e with
  | .int i, .bl b => .ok (.bl (decide (i < bi b))) S
  | .bl b, .int i => .ok (.bl (decide (bi b < i))) S
  | _, _ => oLt d e S
theorem op_ltB : OpR X (compareOp .Lt) (fun x y H Q => (∃ i b, x = .int i ∧ y = .bl b ∧ Q (.bl (decide (i < bi b))) H) ∨ ∃ i b, x = .bl b ∧ y = .int i ∧ Q (.bl (decide (bi b < i))) H) := by
  intro pins s σ H x y v u Q I rx ry h
  rcases h with ⟨i, b, rfl, rfl, q⟩ | ⟨i, b, rfl, rfl, q⟩
  · obtain ⟨t, rfl⟩ := rx
    obtain rfl : u = Value.bool b := ry
    exact fx_lt_int_bool ⟨.bl _, H, I, rfl, q⟩
  · obtain ⟨t, rfl⟩ := ry
    obtain rfl : v = Value.bool b := rx
    exact fx_lt_bool_int ⟨.bl _, H, I, rfl, q⟩
theorem od_ltB : OpD X W (compareOp .Lt) oLtB := by
  obtain ⟨r, h1, h2⟩ := od_lt (X := X) (W := W)
  refine ⟨_, h1.or op_ltB, fun σ H μ S d e x y Q hs rx ry h => ?_⟩
  unfold oLtB at h
  split at h
  · cases rx; cases ry
    exact .inr (.inl ⟨_, _, rfl, rfl, h _ H μ .refl hs (.bl _)⟩)
  · cases rx; cases ry
    exact .inr (.inr ⟨_, _, rfl, rfl, h _ H μ .refl hs (.bl _)⟩)
  · exact .inl (h2 σ H μ S d e x y Q hs rx ry h)
end
end Fx

namespace Fx
open PySem PySem.Spec PyProof.Rows L2
/-! ### {True: x, False: y}[e] -/
def bkIs : Bool → Value → Bool
  | b, .bool c => b == c
  | _, _ => false
theorem bkIs_shape {b : Bool} {v : Value} (h : bkIs b v = true) : v = .bool b := by
  cases v <;> simp_all [bkIs]
def bKind (prog : Program) (w : World) : KeyKind prog w Bool where
  is := bkIs
  hash := PpSet.hB
  inj := fun v a b ha hb => by
    have e1 := bkIs_shape ha
    have e2 := bkIs_shape hb
    rw [e1] at e2
    cases e2
    rfl
  byValue := fun k v h => by rw [bkIs_shape h]; rfl
  pyHash := fun hv h => by rw [bkIs_shape hv]; exact PpSet.pyHash_bool h
  eqBool := fun {A E s a b u v Q} hu hv h => (by
    rw [bkIs_shape hu, bkIs_shape hv]
    refine SeqAt.EqAt.bool_bool a b _ _ _ _ ?_
    have e : (a == b) = decide (a = b) := by cases a <;> cases b <;> rfl
    rw [e]
    exact h)
  «strs» := fun k x t v h => by cases h
def BD (P : Program) (w : World) (p : Addr) (kvs : List (Bool × V)) : HO := .ext fun h => (p == sysModules) = false ∧ ∃ vs, KV kvs vs ∧ h.DictOf (bKind P w) p vs
section
variable {P : Program} {w : World} {H : Hp} {h : Heap} {p : Addr}
theorem bd_ok {kvs : List (Bool × V)} {vs : List (Bool × Value)} (hd : (p == sysModules) = false) (r : KV kvs vs) (d : h.DictOf (bKind P w) p vs) : ObjOk P w H h p (BD P w p kvs) := by
  refine ⟨⟨hd, vs, r, d⟩, let ⟨o, _, _, e, _⟩ := d; ⟨o, e⟩, fun h1 h2 q k => ?_⟩
  obtain ⟨q1, q2, q3, o, es, ep, e, q4⟩ := q
  exact ⟨q1, q2, q3, o, es, ep, k o e, q4⟩
theorem bd_at {kvs : List (Bool × V)} (hok : HOk P w H h) (e : H p = some (BD P w p kvs)) : (p == sysModules) = false ∧ ∃ vs, KV kvs vs ∧ h.DictOf (bKind P w) p vs := by
  have x : ObjOk P w H h p (.ext fun h => (p == sysModules) = false ∧ ∃ vs, KV kvs vs ∧ h.DictOf (bKind P w) p vs) := hok p _ e
  exact x.1
end
section
variable {X : Cx} {W : WX}
theorem pe_bdisp {x y : Str} {j1 j2 j3 j4 p1 p2 p3 p4 pos} : PE X (.Dict [some (.Constant (.bool true) j1 p1), some (.Constant (.bool false) j2 p2)] [.Constant (.str x) j3 p3, .Constant (.str y) j4 p4] pos)
    (fun σ H Q => ∀ p, H p = none → Q (.ref p) (upd H p (BD X.prog X.w p [(true, .str x), (false, .str y)]))) := by
  refine ⟨fun pins s σ H Q I q => ?_⟩
  have hn := I.hok.fresh (Nat.le_refl s.heap.objs.size)
  have hsm : (s.heap.objs.size == sysModules) = false := beq_eq_false_iff_ne.mpr (Ne.symm (Nat.ne_of_lt I.big))
  have new : ObjOk X.prog X.w (upd H s.heap.objs.size (BD X.prog X.w s.heap.objs.size [])) (s.heap.push { cls := .type "dict", data := .dict #[] }) s.heap.objs.size (BD X.prog X.w s.heap.objs.size []) := bd_ok hsm .nil (Heap.DictOf.new s.heap)
  have I1 := I.laid (a := s.heap.objs.size) (o := BD X.prog X.w s.heap.objs.size []) (h' := s.heap.push { cls := .type "dict", data := .dict #[] }) (t' := s.toks) (fun _ _ z => Heap.get?_push_of_some _ z) (Nat.le_refl _) new
  have PP : PPs X pos [some (.Constant (.bool true) j1 p1), some (.Constant (.bool false) j2 p2)] [.Constant (.str x) j3 p3, .Constant (.str y) j4 p4] _ := pps_cons pe_bl pe_str (pps_cons pe_bl pe_str pps_nil)
  refine wpAny_Dict_walk (knd := bKind X.prog X.w) rfl rfl (List.cons_ne_nil _ _) (show 2 ≤ 15 by decide) (thn (PP.run pins _ σ _ (fun ps H2 => ps = [(.bl true, .str x), (.bl false, .str y)] ∧ H2 = upd H s.heap.objs.size (BD X.prog X.w s.heap.objs.size [])) I1 ⟨rfl, rfl⟩) fun ws s2 ⟨ps, H2, I2, rel, e1, e2⟩ => ?_)
  subst e1 e2
  obtain ⟨u1, u2, t1, t2, rfl⟩ : ∃ (u1 u2 : Value) (t1 t2 : Tok), ws = [(.bool true, .str x t1), (.bool false, .str y t2)] := by
    cases rel with
    | @cons _ a1 _ _ g1 r2 =>
      cases r2 with
      | @cons _ a2 _ _ g2 r3 =>
        cases r3
        obtain ⟨b1, t1, c1⟩ := g1
        obtain ⟨b2, t2, c2⟩ := g2
        obtain ⟨k1, v1⟩ := a1
        obtain ⟨k2, v2⟩ := a2
        have b1 : k1 = .bool true := b1
        have b2 : k2 = .bool false := b2
        have c1 : v1 = .str x t1 := c1
        have c2 : v2 = .str y t2 := c2
        subst b1 b2 c1 c2
        exact ⟨.none, .none, t1, t2, rfl⟩
  obtain ⟨_, vs0, r0, dd⟩ := bd_at I2.hok upd_same
  cases r0
  refine ⟨[(true, .str x t1), (false, .str y t2)], ⟨rfl, rfl, rfl, rfl, True.intro⟩, dd, fun h' dd' hs => ⟨.ref s.heap.objs.size, _, ?_, rfl, q _ hn⟩⟩
  have he : ∃ q, h'.get? s.heap.objs.size = some q := let ⟨q, _, _, hq, _⟩ := dd'; ⟨q, hq⟩
  have J := d_write (a := s.heap.objs.size) (ob := BD X.prog X.w s.heap.objs.size [(true, .str x), (false, .str y)]) (t' := s2.toks + 2) I2 (by rw [upd_same]; exact True.intro) hs he (bd_ok hsm (.cons ⟨rfl, t1, rfl⟩ (.cons ⟨rfl, t2, rfl⟩ .nil)) dd')
  rw [upd_upd] at J
  exact J
theorem ix_bd : IxR X (fun x y H Q => ∃ a kvs b v, x = .ref a ∧ y = .bl b ∧ H a = some (BD X.prog X.w a kvs) ∧ valV kvs b = some v ∧ Q v H) := by
  intro value slice pins s σ H x y v u Q I rx ry ⟨a, kvs, b, w, ex, ey, e, hv, q⟩ hs
  subst ex ey
  obtain rfl : v = Value.ref a := rx
  obtain rfl : u = Value.bool b := ry
  obtain ⟨_, vs, r, dd⟩ := bd_at I.hok e
  obtain ⟨w', hw, rw'⟩ := RelO.some_of (v := w) (o := valueAt vs b) (by rw [← hv]; exact r.val b)
  exact PyProof.Rows.tail_any dd.typeIs PySem.F.slot_dict_getitem.lookup (wpAny_getItem_of (knd := bKind X.prog X.w) (k := b) (by show bkIs b (.bool b) = true; simp [bkIs]) dd.mapOf hw ⟨w, H, I.tok _, rw', q⟩) hs
def mBoolD (x y : List Nat) (m : ME) : ME := fun sd S => (m sd S).bind fun d S1 => match d with
  | .bl b => .ok (.str (if b = true then x else y)) S1
  | _ => .stk
theorem se_boolD {x y : Str} {e : Expr} {m : ME} {j1 j2 j3 j4 p1 p2 p3 p4 pos pos'} (he : SE X W e m) (hp : PlainIx e := by intro _ _; rfl) :
    SE X W (.Subscript (.Dict [some (.Constant (.bool true) j1 p1), some (.Constant (.bool false) j2 p2)] [.Constant (.str x) j3 p3, .Constant (.str y) j4 p4] pos) e pos') (mBoolD x.cps.toList y.cps.toList m) :=
  (pe_ix ix_bd pe_bdisp he hp).impF fun σ H Q ⟨μ, S, sd, hs, hl, h⟩ => fun p hpn => by
    refine tE_bind (hs.tmp hpn) (hl.up (up_tmp hpn)) (FinA.up (up_tmp hpn) h) fun d S1 μ1 v H1 s1 l1 u1 r1 h1 => ?_
    have e1 : H1 p = some (BD X.prog X.w p [(true, .str x), (false, .str y)]) := u1.rest p _ upd_same (hs.new hpn)
    cases r1 with
    | bl b =>
      cases b with
      | true => exact ⟨p, _, true, .str x, rfl, rfl, e1, rfl, h1 _ H1 μ1 .refl s1 (rep_str x)⟩
      | false => exact ⟨p, _, false, .str y, rfl, rfl, e1, rfl, h1 _ H1 μ1 .refl s1 (rep_str y)⟩
    | _ => exact h1.elim
end
end Fx

namespace Fx
open PySem PySem.Spec PyProof.Rows L2
/-! ### an own exception class as the top has written it -/
/-- the __init__ of a class statement: its first statement -/
def clsInit (s : Stmt) : Stmt := match s with
  | .ClassDef _ _ _ b _ _ _ _ _ _ _ => b.getD 0 (.Pass ⟨0, 0, 0, 0⟩)
  | _ => .Pass ⟨0, 0, 0, 0⟩
structure ExcAt (P : Program) (K : PySem.W.Frag) (mg : Str → Option Value) (x : String) (qual : Str) (st : Stmt) (C fI : Addr) (fd : FuncData) : Prop where
  m : mg (Str.ofString x) = some (.ref C)
  i : ∃ cc cdv, InitF P K mg qual st (defScope st).names fI cc C cdv fd
  o : OexC K C
  iC : PySem.W.findIn K (.ref C) "__init__" = some (some (.ref fI))
  tI : PySem.W.typeIn K (.ref fI) = some (.type "function")
  fI : PySem.W.fnIn K fI = true
  hp : PySem.W.findIn K (.ref C) "place" = some none
  hn : PySem.W.findIn K (.ref C) "name" = some none
  xf : XfC K C
  thi : PySem.W.nsIn K cStatics "thirdparty.any" = some none
  ve : PySem.W.subIn K (.ref C) (.type "ValueError") = some true
theorem excAt_mk {P : Program} {K : PySem.W.Frag} {h : Heap} {mg : Str → Option Value} {x : String} {qual : Str} {st : Stmt} {C fI cc cda N : Addr} {nm' qn : Str} {bs bm : List Value} {sn : List Str} {sub : List Value} {ab : Bool} {col : Option Bool} {dd : Option Addr} {k0 k1 k2 k3 k5 : Option Value}
    {oc kV doc pm ct ccl cl : Value} {od an cdd cld : Option Addr} {osl ccs csl : Array (Option Value)} {vs : Array Value} {file : Str} {tf : Tok} {cd : ClassData}
    (X : K.In h) (G : h.Ns mainGlobals mg)
    (a : PySem.W.nsIn K mainGlobals (Str.ofString x) = some (some (.ref C)))
    (l : K.lookup C = some (excClassObj nm' qn C N bs bm true sn sub ab col dd k0 k1 k2 k3 k5 "ValueError.__new__"))
    (rv : PySem.HandSPX.refsVE bm = true)
    (sa : PySem.W.findIn K (.ref C) "__setattr__" = some (some (.builtin "object.__setattr__")))
    (be : PySem.W.subIn K (.ref C) (.type "BaseException") = some true)
    (ty : PySem.W.typeIn K (.ref C) = some (.type "type"))
    (kp : PySem.W.keepIn K (.ref C) = true)
    (iC : PySem.W.findIn K (.ref C) "__init__" = some (some (.ref fI)))
    (tI : PySem.W.typeIn K (.ref fI) = some (.type "function"))
    (fn : PySem.W.fnIn K fI = true)
    (lf : K.lookup fI = some ⟨oc, od, .func (PySem.W.fnX "__init__" qual (defArgs st) (defBody st) (scO (defScope st).names) [("__class__", cc)] .none kV doc pm an (.ref cda) ct), osl⟩)
    (co : PySem.W.codeIn K (.ref cda) qual = true)
    (lc : K.lookup cda = some ⟨ccl, cdd, .fields vs, ccs⟩) (vf : vs[2]? = some (.str file tf)) (pf : ((P.main.file : Str) == file) = true)
    (lcc : K.lookup cc = some ⟨cl, cld, .cell (some (.ref C)), csl⟩)
    (lcl : PySem.W.clsIn K C = some cd)
    (zs : PySem.W.nsIn K mainGlobals "super" = some none)
    (tp : (P.main.scope.names.lookup ("super" : Str)).isSome = false)
    (par : ((defArgs st).posonlyargs ++ (defArgs st).args).map (·.arg) = ([("self" : Str), "place"] : List Str))
    (scp : defScope st = scO (defScope st).names) (s1 : (defScope st).names.lookup ("super" : Str) = some .globalImplicit) (s2 : (defScope st).names.lookup ("__class__" : Str) = some .free)
    (s3 : (defScope st).names.lookup ("self" : Str) = some .local) (s4 : (defScope st).names.lookup ("place" : Str) = some .local)
    (nc : ∀ y ∈ (defScope st).names, y.2 ≠ .cell) (nf : ∀ y ∈ (defScope st).names, y.2 = .free → y.1 = "__class__")
    (hp : PySem.W.findIn K (.ref C) "place" = some none) (hn : PySem.W.findIn K (.ref C) "name" = some none)
    (ga : PySem.W.findIn K (.ref C) "__getattribute__" = some (some (.builtin "BaseException.__getattribute__"))) (gg : PySem.W.findIn K (.ref C) "__getattr__" = some none) (hd : PySem.W.hasDictIn K C = true)
    (thi : PySem.W.nsIn K cStatics "thirdparty.any" = some none) (ve : PySem.W.subIn K (.ref C) (.type "ValueError") = some true) :
    ExcAt P K mg x qual st C fI (PySem.W.fnX "__init__" qual (defArgs st) (defBody st) (scO (defScope st).names) [("__class__", cc)] .none kV doc pm an (.ref cda) ct) where
  m := PySem.W.mg_of X G a
  i := ⟨cc, .ref cda, { ex := ⟨oc, od, kV, doc, pm, an, ct, osl, rfl, lf, co⟩, cod := ⟨cda, ccl, cdd, vs, ccs, file, tf, rfl, lc, vf, pf⟩, cel := ⟨cl, cld, csl, lcc⟩, cls := ⟨cd, lcl⟩, sup := PySem.W.mg_none_of X G zs, top := tp, par := par, scp := ⟨scp, True.intro, True.intro, s1, s2, s3, s4⟩, nocell := nc, nofree := nf }⟩
  o := ⟨⟨nm', qn, N, bs, bm, sn, sub, ab, col, dd, k0, k1, k2, k3, k5, l, rv⟩, sa, be, ty, kp⟩
  iC := iC
  tI := tI
  fI := fn
  hp := hp
  hn := hn
  xf := ⟨ga, gg, be, hd⟩
  thi := thi
  ve := ve
section
variable {K : PySem.W.Frag} {C D E N : Addr} {cd : ClassData} {rest : List Value}
/-- super() finds a class of the text -/
theorem sup_own {oc : Value} {od : Option Addr} {cdE : ClassData} {sl : Array (Option Value)} {v : Value} (h1 : PySem.W.clsIn K C = some cd) (hm : (cd.mro.dropWhile (· != .ref D)).drop 1 = .ref E :: rest) (l : K.lookup E = some ⟨oc, od, .cls cdE, sl⟩)
    (n : PySem.W.nsIn K cdE.ns "__init__" = some (some v)) : PySem.W.ks_superIn K C D "__init__" = some (some v) := by
  unfold PySem.W.ks_superIn
  rw [h1, Option.bind_some, hm]
  unfold PySem.W.alongIn
  have e : PySem.W.ownIn K "__init__" (.ref E) = some (some v) := by
    unfold PySem.W.ownIn
    simp only [l]
    exact n
  rw [e]
/-- super() finds ValueError -/
theorem sup_ve (h1 : PySem.W.clsIn K C = some cd) (hm : (cd.mro.dropWhile (· != .ref D)).drop 1 = .type "ValueError" :: rest) : PySem.W.ks_superIn K C D "__init__" = some (some (.builtin "ValueError.__init__")) := by
  unfold PySem.W.ks_superIn
  rw [h1, Option.bind_some, hm]
  unfold PySem.W.alongIn
  have e : PySem.W.ownIn K "__init__" (.type "ValueError") = some (some (.builtin "ValueError.__init__")) := by
    unfold PySem.W.ownIn
    first | kernel_rfl | rfl | decide +kernel
  rw [e]
theorem exm_mk {cls : Value} {b : Bool} (h1 : PySem.W.subIn K (.ref C) (.type "BaseException") = some true) (h2 : PySem.W.clsIn K C = some cd) (h3 : PySem.W.typeIn K (.ref C) = some (.type "type")) (h4 : PySem.W.subIn K cls (.ref C) = some b) : PySem.W.exmOne K cls (.ref C) = some b := by
  unfold PySem.W.exmOne
  rw [if_pos (by rw [h1]; rfl)]
  unfold PySem.W.kitCls
  simp only
  rw [if_pos (by rw [h2, h3]; rfl)]
  exact h4
end
end Fx

namespace Fx
open PySem PySem.Spec PyProof.Rows L2
/-! ### clauses in short -/
/-- the class n stands in the text, and the table tells which classes it catches -/
def Catches (K : PySem.W.Frag) (mg : Str → Option Value) (tab : Tab) (n : String) : Prop := ∃ c, mg (Str.ofString n) = some c ∧ ∀ y b, tab y n = some b → ∀ C, mg (Str.ofString y) = some (.ref C) → PySem.W.exmOne K (.ref C) c = some b
section
variable {X : Cx} {W : WX} {tab : Tab}
theorem hs0 : ∃ l, HsOk X tab [] [] l := ⟨[], .nil⟩
theorem hsO {n : String} {m : MH} {st : Stmt} {su : List Stmt} {p p' : Pos} {hl : List ExceptHandler} {hs : List HCl} (hc : Catches X.K X.mg tab n)
    (hsu : ∀ a oe cls d pn, Zc cls d oe → (∃ vs, oe.data = .fields vs) → PSs (X.suite a ((a, oe) :: pn)) (st :: su) (tHd X.mg X.K none m a cls d)) (r : ∃ l, HsOk X tab hl hs l) (hg : Gl X (Str.ofString n) := by rfl) (hd : ((Str.ofString n) == ("__debug__" : Str)) = false := by decide) :
    ∃ l, HsOk X tab (.ExceptHandler (some (.Name (Str.ofString n) p)) none (st :: su) p' :: hl) ((n, none, m) :: hs) l := by
  obtain ⟨c, h1, h2⟩ := hc
  obtain ⟨l, r⟩ := r
  exact ⟨_, .only (n := n) (c := c) ⟨hg, hd, .inl h1⟩ h2 hsu r⟩
theorem hsN {n : String} {v : Str} (i : Nat) {m : MH} {st : Stmt} {su : List Stmt} {p p' : Pos} {hl : List ExceptHandler} {hs : List HCl} (hc : Catches X.K X.mg tab n)
    (hsu : ∀ a oe cls d pn, Zc cls d oe → (∃ vs, oe.data = .fields vs) → PSs (X.suite a ((a, oe) :: pn)) (st :: su) (tHd X.mg X.K (some i) m a cls d)) (r : ∃ l, HsOk X tab hl hs l) (hi : X.N[i]? = some v := by rfl) (hk : X.env.kindOf v = some .local := by rfl)
    (hg : Gl X (Str.ofString n) := by rfl) (hd : ((Str.ofString n) == ("__debug__" : Str)) = false := by decide) :
    ∃ l, HsOk X tab (.ExceptHandler (some (.Name (Str.ofString n) p)) (some v) (st :: su) p' :: hl) ((n, some i, m) :: hs) l := by
  obtain ⟨c, h1, h2⟩ := hc
  obtain ⟨l, r⟩ := r
  exact ⟨_, .named (n := n) (c := c) ⟨hg, hd, .inl h1⟩ h2 hi hk hsu r⟩
theorem ss_tryE {body : List Stmt} {hd : ExceptHandler} {hl : List ExceptHandler} {hs : List HCl} {mb : MS} {pos : Pos} (hS : X.stack = X.env :: X.outer) (hF : X.env.frame = some X.env.locals) (hN : X.N.Nodup) (tk : Takes X W)
    (hb : ∀ (W : WX) (pn : List (Addr × Obj)) (xe : Value → Shared → Prop), Takes (X.tr pn xe) W → PassesOwn (model X.prog X.w) X.A X.env xe → SB (X.tr pn xe) W body mb)
    (hh : ∃ l, HsOk X tab (hd :: hl) hs l) : SS X W (.Try body (hd :: hl) [] [] pos) (mTry tab mb hs) := by
  obtain ⟨l, h⟩ := hh
  exact ss_try hS hF hN tk hb h
end
theorem ofString_inj {a b : String} (h : Str.ofString a = Str.ofString b) : a = b := by
  rw [Str.ofString_eq_toList, Str.ofString_eq_toList] at h
  have e : (a.toList.map Char.toNat).toArray = (b.toList.map Char.toNat).toArray := congrArg Str.cps h
  have e2 : a.toList.map Char.toNat = b.toList.map Char.toNat := by simpa using e
  have inj : ∀ {l m : List Char}, l.map Char.toNat = m.map Char.toNat → l = m := by
    intro l
    induction l with
    | nil => intro m h; cases m with | nil => rfl | cons _ _ => cases h
    | cons c l ih =>
      intro m h
      cases m with
      | nil => cases h
      | cons d m =>
        have h1 := (List.cons.inj h).1
        have h2 := ih (List.cons.inj h).2
        have : c = d := by
          apply Char.ext
          exact UInt32.toNat_inj.mp h1
        rw [this, h2]
  exact String.toList_inj.mp (inj e2)
end Fx

namespace Fx
open PySem PySem.Spec PyProof.Rows L2
/-! ### T.get(e, f), T a dict of texts of the module -/
abbrev TabT := List (List Nat × List Nat)
def lookT (tab : TabT) (z : List Nat) : Option (List Nat) := (tab.find? fun p => p.1 == z).map (·.2)
def KTab (K : PySem.W.Frag) (w : World) (mg : Str → Option Value) (x : Str) (tab : TabT) : Prop := ∃ a es n, mg x = some (.ref a) ∧ K.lookup a = some ⟨.type "dict", none, .dict es n, #[]⟩ ∧ PySem.W.KeysLit w.params es.toList ∧ (a == sysModules) = false ∧
  ∀ z : List Nat, (∀ v, lookT tab z = some v → ∃ t, findBy Value.isStrOf es (stS z) = some (.str (stS v) t)) ∧ (lookT tab z = none → findBy Value.isStrOf es (stS z) = none)
def mKget (tab : TabT) (e f : ME) : ME := fun sd S => (e sd S).bind fun d S1 => (f sd S1).bind fun z S2 => match d with
  | .str x => (match lookT tab x with | some v => .ok (.str v) S2 | none => .ok z S2)
  | _ => .stk
section
variable {X : Cx} {W : WX}
theorem pe_kget {x : Str} {tab : TabT} {e f : Expr} {ty tx : TE} {p apos cpos : Pos} (T : KTab X.K X.w X.mg x tab) (he : PE X e ty) (hf : PE X f tx) (m : M2 X (.Name x p) "get" apos e f cpos) (hg : Gl X x) (hdb : (x == ("__debug__" : Str)) = false) :
    PE X (.Call (.Attribute (.Name x p) "get" apos) [e, f] [] cpos) (fun σ H Q => ty σ H fun y H2 => tx σ H2 fun z H3 => ∃ k, y = .str (stS k) ∧ (match lookT tab k with | some v => Q (.str (stS v)) H3 | none => Q z H3)) := by
  obtain ⟨a, es, n, hm, hl, hk, hs, ht⟩ := T
  refine ⟨fun pins s σ H Q I h => ?_⟩
  refine wpAny_Call_method m.base m.few m.line PySem.F.plainAttrs_dict PySem.F.slot_dict_get PySem.F.type_dict_get (ld_glob I hg hm ?_ hdb)
  have mp0 := PySem.W.mapOf_K (prog := X.prog) (w := X.w) I.kIn hl hk
  refine ⟨mp0.typeIs, mp0.noDict, ?_⟩
  rw [m.trees]
  refine Calls.callWith_builtin rfl (Calls.evalArgs_plain (Calls.spliced_cons (thn (he.run pins s σ H _ I h) fun iv s2 ⟨y, H2, I2, ry, q2⟩ =>
    Calls.spliced_cons (thn (hf.run pins s2 σ H2 _ I2 q2) fun fv s3 ⟨z, H3, I3, rz, k, ey, q3⟩ => Calls.spliced_nil ?_))))
  subst ey
  obtain ⟨t, rfl⟩ := (show ∃ t, iv = Value.str (stS k) t from ry)
  have mp := PySem.W.mapOf_K (prog := X.prog) (w := X.w) I3.kIn hl hk
  refine call_meetsIn PySem.F.slot_dict_get mp.typeIs PySem.F.entry_dict_get (PySem.F.args_dict_get_3 _ _ _) (meets_dict_get_default (strKind X.prog X.w) a (strKind_is X.prog X.w (stS k) t) hs fv) ⟨_, mp, ?_⟩
  obtain ⟨h1, h2⟩ := ht k
  cases hq : lookT tab k with
  | some v =>
    obtain ⟨t', e'⟩ := h1 v hq
    rw [hq] at q3
    show EP X pins σ Q ((findBy Value.isStrOf es (stS k)).getD fv) _
    rw [e']
    exact ⟨.str (stS v), H3, I3.tok _, ⟨t', rfl⟩, q3⟩
  | none =>
    rw [hq] at q3
    show EP X pins σ Q ((findBy Value.isStrOf es (stS k)).getD fv) _
    rw [h2 hq]
    exact ⟨z, H3, I3.tok _, rz, q3⟩
theorem se_kget {x : Str} {tab : TabT} {e f : Expr} {me mf : ME} {p apos cpos : Pos} (T : KTab X.K X.w X.mg x tab) (he : SE X W e me) (hf : SE X W f mf) (m : M2 X (.Name x p) "get" apos e f cpos := by exact ⟨rfl, rfl, rfl, rfl⟩) (hg : Gl X x := by rfl) (hdb : (x == ("__debug__" : Str)) = false := by decide) :
    SE X W (.Call (.Attribute (.Name x p) "get" apos) [e, f] [] cpos) (mKget tab me mf) :=
  (pe_kget T he hf m hg hdb).impF fun σ H Q ⟨μ, S, sd, hs, hl, h⟩ => tE_bind hs hl h fun d S1 μ1 v H1 s1 l1 u1 r1 h1 => tE_bind s1 l1 h1 fun z S2 μ2 w H2 s2 l2 u2 r2 h2 => by
    cases r1 with
    | str k =>
      refine ⟨k, rfl, ?_⟩
      have h2 : FinA X.mg X.K (RepV X.K) (fun c d H' => W c d σ H') μ2 H2 (match lookT tab k with | some v => .ok (.str v) S2 | none => .ok z S2) Q := h2
      cases hq : lookT tab k with
      | some v => rw [hq] at h2; exact h2 _ H2 μ2 .refl s2 (.str v)
      | none => rw [hq] at h2; exact h2 _ H2 μ2 .refl s2 r2
    | _ => exact h2.elim
end
end Fx

namespace Fx
open PySem PySem.Spec PyProof.Rows L2
/-! ### the newer mirrors, evaluated -/
section
variable {S : List Cell}
@[simp] theorem dicD_tup (l : List D) : dicD S (.tup l) = none := (rfl)
@[simp] theorem dicD_cst (l : List D) : dicD S (.cst l) = none := (rfl)
@[simp] theorem dicD_str (l : List Nat) : dicD S (.str l) = none := (rfl)
@[simp] theorem oIxA_tup (l : List D) (i : Int) : oIxA (.tup l) (.int i) S = optR (atI l i) S := (rfl)
@[simp] theorem oIxA_cst (l : List D) (i : Int) : oIxA (.cst l) (.int i) S = optR (atI l i) S := (rfl)
@[simp] theorem oIxA_str (x : List Nat) (i : Int) : oIxA (.str x) (.int i) S = if x.length ≤ sizeLine then optR ((atI x i).map fun c => .str [c]) S else .stk := (rfl)
@[simp] theorem oIxA_loc (n : Nat) (i : Int) : oIxA (.loc n) (.int i) S = match S[n]? with
  | some (.lst xs) => optR (atI xs i) S
  | some (.dic kvs) => optR (getK kvs (.inl i)) S
  | _ => .stk := by
  show (match dicD S (.loc n) with | some (_, kvs) => optR ((keyD (.int i)).bind fun k => getK kvs k) S | none => oIx (.loc n) (.int i) S) = _
  unfold dicD
  simp only
  cases h : S[n]? with
  | none => simp [oIx, seqD, cellL, h, optR]
  | some c =>
    cases c with
    | lst xs => simp [oIx, seqD, cellL, h, optR]
    | dic kvs => simp [keyD]
    | ins a b => simp [oIx, seqD, cellL, h, optR]
    | tab a b => simp [oIx, seqD, cellL, h, optR]
@[simp] theorem oLenA_tup (l : List D) : oLenA [.tup l] S = .ok (.int l.length) S := (rfl)
@[simp] theorem oLenA_cst (l : List D) : oLenA [.cst l] S = .ok (.int l.length) S := (rfl)
@[simp] theorem oLenA_str (x : List Nat) : oLenA [.str x] S = if x.length ≤ sizeLine then .ok (.int x.length) S else .stk := (rfl)
@[simp] theorem oLenA_loc (n : Nat) : oLenA [.loc n] S = match S[n]? with
  | some (.lst xs) => .ok (.int xs.length) S
  | some (.dic kvs) => .ok (.int kvs.length) S
  | _ => .stk := by
  show (match dicD S (.loc n) with | some (_, kvs) => Res.ok (D.int kvs.length) S | none => oLen [.loc n] S) = _
  unfold dicD
  simp only
  cases h : S[n]? with
  | none => simp [oLen, cellL, h]
  | some c =>
    cases c with
    | lst xs => simp [oLen, cellL, h]
    | dic kvs => rfl
    | ins a b => simp [oLen, cellL, h]
    | tab a b => simp [oLen, cellL, h]
@[simp] theorem oIntS_int (i : Int) : oIntS [.int i] S = .ok (.int i) S := (rfl)
@[simp] theorem oIntS_bl (b : Bool) : oIntS [.bl b] S = .ok (.int (if b then 1 else 0)) S := (rfl)
@[simp] theorem oStrC_int (i : Int) : oStrC [.int i] S = if cLog i then .ok (.str (istr i)) S else .stk := (rfl)
@[simp] theorem oStrC_str (x : List Nat) : oStrC [.str x] S = .ok (.str x) S := (rfl)
@[simp] theorem setD_loc (n : Nat) (k : Int) (v : D) : setD (.loc n) (.int k) v S = match S[n]? with
  | some (.lst xs) => (match ixN xs.length k with
    | some j => some (S.set n (.lst (xs.set j v)))
    | none => none)
  | some (.dic kvs) => if kvs.length < sizeLine then some (S.set n (.dic (putKD kvs (.inl k) v))) else none
  | _ => none := by
  cases h : S[n]? with
  | none =>
    have e : dicD S (.loc n) = none := by unfold dicD; simp only [h]
    unfold setD
    rw [e]
    simp only [mlst_ev, h]
  | some c =>
    cases c with
    | lst xs =>
      have e : dicD S (.loc n) = none := by unfold dicD; simp only [h]
      unfold setD
      rw [e]
      simp only [mlst_ev, h]
      all_goals rfl
    | dic kvs =>
      have e : dicD S (.loc n) = some (n, kvs) := by unfold dicD; simp only [h]
      unfold setD
      rw [e]
      rfl
    | ins a b =>
      have e : dicD S (.loc n) = none := by unfold dicD; simp only [h]
      unfold setD
      rw [e]
      simp only [mlst_ev, h]
    | tab a b =>
      have e : dicD S (.loc n) = none := by unfold dicD; simp only [h]
      unfold setD
      rw [e]
      simp only [mlst_ev, h]
@[simp] theorem gSubA_ev (o i : ME) (v : D) (sd : Sl) : gSubA o i v sd S = (o sd S).bind fun d S1 => (i sd S1).bind fun e S2 => match setD d e v S2 with | some S3 => .ok sd S3 | none => .stk := (rfl)
@[simp] theorem mRaise_ev (x : String) (ns : List (List Nat)) (m : ME) (sd : Sl) : mRaise x ns m sd S = (m sd S).thenS sd fun d S1 => .exc ⟨x, exFs ns d⟩ sd S1 := (rfl)
@[simp] theorem mJoin_ev (mo me : ME) (sd : Sl) : mJoin mo me sd S = (mo sd S).bind fun d S1 => match d with
  | .str a => (me sd S1).bind fun e S2 => match (seqD S2 e).bind strsD with
    | some ys => if (ys.map List.length).sum + ys.length * a.length ≤ 16777216 then .ok (.str (joinS a ys)) S2 else .stk
    | none => .stk
  | _ => .stk := (rfl)
@[simp] theorem oAddS_int (i j : Int) : oAddS (.int i) (.int j) S = .ok (.int (i + j)) S := (rfl)
@[simp] theorem oAddS_str (x y : List Nat) : oAddS (.str x) (.str y) S = if x.length + y.length ≤ sizeLine then .ok (.str (x ++ y)) S else .stk := (rfl)
@[simp] theorem oLtB_int (i j : Int) : oLtB (.int i) (.int j) S = .ok (.bl (decide (i < j))) S := (rfl)
@[simp] theorem oLtB_ib (i : Int) (b : Bool) : oLtB (.int i) (.bl b) S = .ok (.bl (decide (i < bi b))) S := (rfl)
@[simp] theorem oLtB_bi (i : Int) (b : Bool) : oLtB (.bl b) (.int i) S = .ok (.bl (decide (bi b < i))) S := (rfl)
@[simp] theorem oLt_str (x y : List Nat) : oLt (.str x) (.str y) S = .ok (.bl (decide (x < y))) S := (rfl)
@[simp] theorem oLe_str (x y : List Nat) : oLe (.str x) (.str y) S = .ok (.bl (!decide (y < x))) S := (rfl)
end
end Fx

namespace Fx
open PySem PySem.Spec PyProof.Rows L2
/-! ### _law_next, as all the laws have it -/
def cellV (ns : List Int) (p : Nat) : Int := match ns[p]? with | some i => (i.natAbs : Int) | none => 0
/-- what drawing leaves on the tape -/
def nextV (ns : List Int) (p : Nat) (r s many : Int) : Int × Nat × Int × Int :=
  if r = 0 then
    let cell : Int := cellV ns p
    let p' := if p < ns.length then p + 1 else p
    if cell < 10 ^ 18 then
      let s' := (s * 69621 + cell * 40692 + 17) % 2147483647
      (s' / 5 * 48271 % 2147483647 % many, p', r, s')
    else (cell % many, p', cell / many, s)
  else (r % many, p, r / many, s)

/-- the tape: the script's numbers, the place, the rest, the seed -/
def tapeAt (S : List Cell) (n : Nat) : Option (Nat × List Int × Nat × Int × Int) := match S[n]? with
  | some (.lst [.loc k, .int p, .int r, .int s]) => match S[k]? with
    | some (.lst xs) => match intsD xs with
      | some ns => if k ≠ n ∧ 0 ≤ p ∧ 0 ≤ r ∧ 0 ≤ s ∧ s < 2147483647 then some (k, ns, p.toNat, r, s) else none
      | none => none
    | _ => none
  | _ => none
def m_next : List D → List Cell → Res D := fun ds S => match ds with
  | [.loc n, .int many] => match tapeAt S n with
    | some (k, ns, p, r, s) => if 0 < many ∧ many < 1073741824 then
        .ok (.int (nextV ns p r s many).1) (S.set n (.lst [.loc k, .int (nextV ns p r s many).2.1, .int (nextV ns p r s many).2.2.1, .int (nextV ns p r s many).2.2.2])) else .stk
    | none => .stk
  | _ => .stk
def bNext : MS := (mSeq (mSet 2 (mBin oIxA (mVar 0) (mC (.int 2))))
  (mSeq (mIf (mTst (mBin oEq (mVar 2) (mC (.int 0))))
  (mSeq (mSet 3 (mC (.int 0)))
    (mSeq (mIf (mTst (mBin oLt (mBin oIxA (mVar 0) (mC (.int 1))) (mB oLenA (mCons (mBin oIxA (mVar 0) (mC (.int 0))) mNil))))
    (mSeq (mSet 3 (mB oAbs (mCons (mB oIntS (mCons (mBin oIxA (mBin oIxA (mVar 0) (mC (.int 0))) (mBin oIxA (mVar 0) (mC (.int 1)))) mNil)) mNil)))
      (mAsg (gSubA (mVar 0) (mC (.int 1))) (mBin oAdd (mBin oIxA (mVar 0) (mC (.int 1))) (mC (.int 1)))))
    mNext)
    (mSeq (mSet 2 (mVar 3))
    (mIf (mTst (mBin oLt (mVar 3) (mBin oPow (mC (.int 10)) (mC (.int 18)))))
    (mSeq (mAsg (gSubA (mVar 0) (mC (.int 3))) (mBin oMod (mB oIntS (mCons (mBin oAdd (mBin oAdd (mBin oMulL (mBin oIxA (mVar 0) (mC (.int 3))) (mC (.int 69621))) (mBin oMulL (mVar 3) (mC (.int 40692)))) (mC (.int 17))) mNil)) (mC (.int 2147483647))))
      (mRet (mBin oMod (mBin oMod (mB oIntS (mCons (mBin oMulL (mB oIntS (mCons (mBin oDiv (mBin oIxA (mVar 0) (mC (.int 3))) (mC (.int 5))) mNil)) (mC (.int 48271))) mNil)) (mC (.int 2147483647))) (mVar 1))))
    mNext))))
  mNext)
  (mSeq (mAsg (gSubA (mVar 0) (mC (.int 2))) (mBin oDiv (mVar 2) (mVar 1)))
  (mRet (mBin oMod (mB oIntS (mCons (mVar 2) mNil)) (mVar 1))))))
theorem intsD_eq : ∀ {l : List D} {ns : List Int}, intsD l = some ns → l = ns.map D.int
  | [], ns, h => by cases h; rfl
  | d :: l, ns, h => by
    cases d with
    | int i =>
      unfold intsD at h
      obtain ⟨ms, h1, rfl⟩ := Option.map_eq_some_iff.mp h
      rw [intsD_eq h1]; rfl
    | _ => cases h
theorem tapeAt_some {S : List Cell} {n k : Nat} {ns : List Int} {p : Nat} {r s : Int} (h : tapeAt S n = some (k, ns, p, r, s)) :
    S[n]? = some (.lst [.loc k, .int p, .int r, .int s]) ∧ S[k]? = some (.lst (ns.map D.int)) ∧ k ≠ n ∧ 0 ≤ r ∧ 0 ≤ s ∧ s < 2147483647 := by
  unfold tapeAt at h
  split at h
  · rename_i k' p' r' s' e1
    split at h
    · rename_i xs e2
      split at h
      · rename_i ns' e3
        split at h
        · rename_i hc
          cases h
          obtain ⟨h1, h2, h3, h4, h5⟩ := hc
          rw [intsD_eq e3] at e2
          refine ⟨?_, e2, h1, h3, h4, h5⟩
          rw [e1, Int.toNat_of_nonneg h2]
        · cases h
      · cases h
    · cases h
  · cases h
theorem ref_next (ds : List D) (S : List Cell) (h : ds.length = 2) : RefR S (m_next ds S) (bNext (startD 4 ds) S) := by
  unfold m_next
  split
  · rename_i n many
    split
    · rename_i k ns p r s ht
      split
      · rename_i hm
        obtain ⟨hS, hK, hkn, hr0, hs0, hs1⟩ := tapeAt_some ht
        have hl := (List.getElem?_eq_some_iff.mp hS).1
        have hlk := (List.getElem?_eq_some_iff.mp hK).1
        have hkn' : n ≠ k := Ne.symm hkn
        refine ⟨by simp, by simp, fun c hc => ?_, [], .inl ?_⟩
        · rcases List.mem_or_eq_of_mem_set hc with hc | rfl
          · exact .inl hc
          · exact .inr (by simp [Cell.bel, hlk])
        · rw [List.append_nil]
          unfold bNext
          have hcd : cDiv 0 many = true := by unfold cDiv; simp; omega
          have hcd' : ∀ i, cDiv i many = true := fun i => hcd
          have h5 : ∀ i, cDiv i 5 = true := fun i => by unfold cDiv; decide
          have hmp : decide (0 < many) = true := by simp; omega
          have hpw : cPow 10 18 = true := by decide
          have e18 : (10 : Int) ^ (18 : Int).toNat = 1000000000000000000 := by decide
          have hst : startD 4 [D.loc n, .int many] = [some (.loc n), some (.int many), none, none] := rfl
          by_cases hr : r = 0
          · subst hr
            by_cases hp : p < ns.length
            · have hp' : decide ((p : Int) < (ns.length : Int)) = true := by simp; exact hp
              have eg : (ns.map D.int)[p]? = some (.int ns[p]) := by simp [hp]
              have eabs : (if ns[p] < 0 then -ns[p] else ns[p]) = (ns[p].natAbs : Int) := by split <;> omega
              generalize hcell : (ns[p].natAbs : Int) = cell at eabs
              have hc0 : 0 ≤ cell := by omega
              by_cases hc : cell < 1000000000000000000
              · have hcb : decide (cell < 1000000000000000000) = true := by simp [hc]
                have m1 : cMul s 69621 = true := by unfold cMul c64; simp
                have m2 : cMul cell 40692 = true := by unfold cMul c64; simp
                have m3 : ∀ i, cMul i 48271 = true := fun i => by unfold cMul c64; simp
                have en : nextV ns p 0 s many = ((s * 69621 + cell * 40692 + 17) % 2147483647 / 5 * 48271 % 2147483647 % many, p + 1, 0, (s * 69621 + cell * 40692 + 17) % 2147483647) := by
                  simp [nextV, cellV, hp, hcell, hc]
                rw [en, hst]
                simp only [mSeq_ev, mIf_ev, mSet_ev, mTst_ev, mBin_ev, mVar_ev, mC_ev, mB_ev, mCons_ev, mNil_ev, mAsg_ev, gSubA_ev, setD_loc, mRet_ev, mNext_ev, bind_ok, thenS_ok, List.getElem?_cons_succ, List.getElem?_cons_zero, List.set_cons_succ, List.set_cons_zero, oIxA_loc, cellL_ev, mlst_ev, hS, hK,
                  Option.bind_some, atI_zero, atI_one, atI_lit, optR_some, oEq_int, blD_bl, beq_self_eq_true, if_true, oLenA_loc, List.length_map, oLt_int, hp', atI_nat', eg, oIntS_int, oAbs_int, eabs, oAdd_int, List.length_cons, List.length_nil, ixN_one, List.getElem?_set_self hl, List.getElem?_set_ne hkn', List.set_set,
                  oPow, oInt_ev, hpw, e18, hcb, oMulL_int, m1, m2, m3, oMod, oDiv, hmp, h5, Nat.zero_add, show (1 : Nat) < 4 from by decide, List.length_set]
                simp [ixN, List.getElem?_set_self hl, List.set_set, hl, hmp, h5, m3]
              · have hcb : decide (cell < 1000000000000000000) = false := by simp [hc]
                have en : nextV ns p 0 s many = (cell % many, p + 1, cell / many, s) := by
                  simp [nextV, cellV, hp, hcell, hc]
                rw [en, hst]
                simp only [mSeq_ev, mIf_ev, mSet_ev, mTst_ev, mBin_ev, mVar_ev, mC_ev, mB_ev, mCons_ev, mNil_ev, mAsg_ev, gSubA_ev, setD_loc, mRet_ev, mNext_ev, bind_ok, thenS_ok, List.getElem?_cons_succ, List.getElem?_cons_zero, List.set_cons_succ, List.set_cons_zero, oIxA_loc, cellL_ev, mlst_ev, hS, hK,
                  Option.bind_some, atI_zero, atI_one, atI_lit, optR_some, oEq_int, blD_bl, beq_self_eq_true, if_true, oLenA_loc, List.length_map, oLt_int, hp', atI_nat', eg, oIntS_int, oAbs_int, eabs, oAdd_int, List.length_cons, List.length_nil, ixN_one, List.getElem?_set_self hl, List.getElem?_set_ne hkn', List.set_set,
                  oPow, oInt_ev, hpw, e18, hcb, Bool.false_eq_true, if_false, oMod, oDiv, hmp, hcd', Nat.zero_add, show (1 : Nat) < 4 from by decide]
                simp [ixN, List.getElem?_set_self hl, List.set_set, hl, hmp, hcd']
            · have hp' : decide ((p : Int) < (ns.length : Int)) = false := by simp; omega
              have eg : ns[p]? = none := List.getElem?_eq_none (by omega)
              have m1 : cMul s 69621 = true := by unfold cMul c64; simp
              have m2 : cMul 0 40692 = true := by unfold cMul c64; simp
              have m3 : ∀ i, cMul i 48271 = true := fun i => by unfold cMul c64; simp
              have en : nextV ns p 0 s many = ((s * 69621 + 0 * 40692 + 17) % 2147483647 / 5 * 48271 % 2147483647 % many, p, 0, (s * 69621 + 0 * 40692 + 17) % 2147483647) := by
                simp [nextV, cellV, hp, eg]
              rw [en, hst]
              simp only [mSeq_ev, mIf_ev, mSet_ev, mTst_ev, mBin_ev, mVar_ev, mC_ev, mB_ev, mCons_ev, mNil_ev, mAsg_ev, gSubA_ev, setD_loc, mRet_ev, mNext_ev, bind_ok, thenS_ok, List.getElem?_cons_succ, List.getElem?_cons_zero, List.set_cons_succ, List.set_cons_zero, oIxA_loc, cellL_ev, mlst_ev, hS, hK,
                Option.bind_some, atI_zero, atI_one, atI_lit, optR_some, oEq_int, blD_bl, beq_self_eq_true, if_true, oLenA_loc, List.length_map, oLt_int, hp', Bool.false_eq_true, if_false, oIntS_int, oAbs_int, oAdd_int, List.length_cons, List.length_nil, ixN_one, List.getElem?_set_self hl, List.getElem?_set_ne hkn', List.set_set,
                oPow, oInt_ev, hpw, e18, show decide ((0 : Int) < 1000000000000000000) = true from by decide, oMulL_int, m1, m2, m3, oMod, oDiv, hmp, h5, Nat.zero_add]
              simp [ixN, List.getElem?_set_self hl, List.set_set, hS, hmp, h5, m3]
          · have hrb : (r == 0) = false := by simp [hr]
            have en : nextV ns p r s many = (r % many, p, r / many, s) := by
              simp [nextV, hr]
            rw [en, hst]
            simp only [mSeq_ev, mIf_ev, mSet_ev, mTst_ev, mBin_ev, mVar_ev, mC_ev, mB_ev, mCons_ev, mNil_ev, mAsg_ev, gSubA_ev, setD_loc, mRet_ev, mNext_ev, bind_ok, thenS_ok, List.getElem?_cons_succ, List.getElem?_cons_zero, List.set_cons_succ, List.set_cons_zero, oIxA_loc, cellL_ev, mlst_ev, hS, hK,
              Option.bind_some, atI_zero, atI_one, atI_lit, optR_some, oEq_int, blD_bl, hrb, Bool.false_eq_true, if_false, oIntS_int, oDiv, oMod, oInt_ev, hcd', hmp, if_true]
            simp [ixN, List.getElem?_set_self hl, List.set_set, hl, hmp, hcd']
      · trivial
    · trivial
  · trivial
end Fx

namespace Fx
open PySem PySem.Spec PyProof.Rows L2
/-! ### _law_same, as all the laws have it -/
def sameL (R : D → D → Prop) : List D → List D → Prop
  | [], [] => True
  | x :: xs, y :: ys => R x y ∧ sameL R xs ys
  | _, _ => False
/-- one and the same data, of one kind, to a depth -/
def SameP (S : List Cell) : Nat → D → D → Prop
  | 0, _, _ => False
  | n + 1, a, b => match a, b with
    | .non, .non => True
    | .bl x, .bl y => x = y
    | .int x, .int y => x = y
    | .str x, .str y => x = y ∧ (∀ c ∈ x, c < 0x110000)
    | .tup xs, .tup ys => xs.length ≤ 1000 ∧ sameL (SameP S n) xs ys
    | .loc i, .loc j => ∃ xs ys, cellL S i = some xs ∧ cellL S j = some ys ∧ xs.length ≤ 1000 ∧ sameL (SameP S n) xs ys
    | _, _ => False
noncomputable def m_same (n : Nat) : List D → List Cell → Res D := by
  classical
  exact fun ds S => if ∃ a b, ds = [a, b] ∧ SameP S n a b then .ok (.bl true) S else .stk
noncomputable def bSame (rs : List D → List Cell → Res D) : MS := (mSeq (mIf (mTst (mBin oIsN (mVar 1) (mC .non)))
  (mRet (mBin oIsN (mVar 0) (mC .non)))
  mNext)
  (mSeq (mIf (mTru (mIsi "bool" (mVar 1)))
  (mRet (mAndV (mIsi "bool" (mVar 0)) (mBin oEq (mVar 0) (mVar 1))))
  mNext)
  (mSeq (mIf (mTru (mIsi "int" (mVar 1)))
  (mRet (mAndV (mIsi "int" (mVar 0)) (mAndV (mNotV (mIsi "bool" (mVar 0))) (mBin oEq (mVar 0) (mVar 1)))))
  mNext)
  (mSeq (mIf (mTru (mIsi "str" (mVar 1)))
  (mRet (mAndV (mIsi "str" (mVar 0)) (mBin oEq (mVar 0) (mVar 1))))
  mNext)
  (mSeq (mIf (mOr (mAnd (mTru (mIsi "list" (mVar 1))) (mNot (mTru (mIsi "list" (mVar 0))))) (mAnd (mTru (mIsi "tuple" (mVar 1))) (mNot (mTru (mIsi "tuple" (mVar 0))))))
  (mRet (mC (.bl false)))
  mNext)
  (mRet (mAndV (mBin oEq (mB oLenA (mCons (mVar 0) mNil)) (mB oLenA (mCons (mVar 1) mNil))) (mBin oEq (mFresh (mLc (mRng1 (mCons (mB oLenA (mCons (mVar 1) mNil)) mNil)) [2] (gN 2) (mNot (mTru (mCall rs (mCons (mBin oIxA (mVar 0) (mVar 2)) (mCons (mBin oIxA (mVar 1) (mVar 2)) mNil))))) (mC (.int 1)))) (mLst mNil)))))))))


theorem sameL_get {R : D → D → Prop} : ∀ {xs ys : List D}, sameL R xs ys → xs.length = ys.length ∧ ∀ (k : Nat) (h : k < xs.length) (h' : k < ys.length), R xs[k] ys[k]
  | [], [], _ => ⟨rfl, fun k h => by simp at h⟩
  | x :: xs, y :: ys, h => by
    obtain ⟨h1, h2⟩ := sameL_get h.2
    refine ⟨by simp [h1], fun k hk hk' => ?_⟩
    cases k with
    | zero => exact h.1
    | succ k => exact h2 k (by simpa using hk) (by simpa using hk')
  | [], _ :: _, h => h.elim
  | _ :: _, [], h => h.elim
theorem lc_none {g : MG} {t : MT} {e : ME} {ws : List Nat} {sd : Sl} {S : List Cell} {n : Nat} (hn : n ≤ sizeLine) (h : ∀ k, k < n → ∃ sd1, g (.int (0 + (k : Nat))) (wipeD sd ws) S = .ok sd1 S ∧ t sd1 S = .ok false S) :
    lcGo ⟨rngD 0 n, none⟩ ws g t e sd (rngD 0 n) [] S = .ok [] S := by
  have := lcGo_filter (it := ⟨rngD 0 n, none⟩) (ws := ws) (g := g) (t := t) (e := e) (sd := sd) (S := S) (fun _ => false) (fun d => d) trivial (rngD 0 n) [] (fun x hx => by
    obtain ⟨k, hk, rfl⟩ := List.mem_map.mp hx
    obtain ⟨sd1, a, b⟩ := h k (List.mem_range.mp hk)
    exact ⟨sd1, a, b, fun z => by cases z⟩) (by rw [rngD_length]; simpa using hn)
  rw [this]
  simp
theorem eq_empty (S : List Cell) : oEq (.loc S.length) (.loc (S.length + 1)) (S ++ [.lst []] ++ [.lst []]) = .ok (.bl true) (S ++ [.lst []] ++ [.lst []]) := by
  have e1 : (S ++ [Cell.lst []] ++ [Cell.lst []])[S.length]? = some (.lst []) := by simp
  have e2 : (S ++ [Cell.lst []] ++ [Cell.lst []])[S.length + 1]? = some (.lst []) := by
    rw [List.getElem?_append_right (by simp)]
    simp
  unfold oEq eqD
  simp only [pyD_loc, cellL_ev, e1, e2, Option.bind_some, List.mapM_nil]
  rfl
theorem cellL_get {S : List Cell} {i : Nat} {xs : List D} (h : cellL S i = some xs) : S[i]? = some (.lst xs) := by
  unfold cellL at h
  split at h
  · rename_i ys e
    cases h
    exact e
  · cases h
theorem m_same_ok {n : Nat} {S : List Cell} {a b : D} (h : SameP S n a b) : m_same n [a, b] S = .ok (.bl true) S := by
  unfold m_same
  rw [if_pos ⟨a, b, rfl, h⟩]
theorem str_all {x : List Nat} (h : ∀ c ∈ x, c < 0x110000) : x.all (fun c => decide (c < 0x110000)) = true := by
  rw [List.all_eq_true]
  intro c hc
  simpa using h c hc
theorem oEq_str {S : List Cell} {x y : List Nat} (h : ∀ c ∈ x, c < 0x110000) (h2 : ∀ c ∈ y, c < 0x110000) : oEq (.str x) (.str y) S = .ok (.bl (x == y)) S := by
  unfold oEq eqD
  simp only [pyD_str]
  rw [str_all h, str_all h2]
  simp only [if_true, Option.bind_some, Option.map_some]
  show Res.ok (D.bl ((⟨x.toArray⟩ : Str) == (⟨y.toArray⟩ : Str))) S = _
  rw [str_beq]
theorem ref_same (n : Nat) (ds : List D) (S : List Cell) (h : ds.length = 2) : RefR S (m_same (n + 1) ds S) (bSame (m_same n) (startD 3 ds) S) := by
  unfold m_same
  split
  · rename_i hh
    obtain ⟨a, b, rfl, hs⟩ := hh
    have hm : ∀ {x y}, SameP S n x y → m_same n [x, y] S = .ok (.bl true) S := fun h => m_same_ok h
    have hst : startD 3 [a, b] = [some a, some b, none] := rfl
    have fold : (open Classical in (fun ds S => if ∃ a b, ds = [a, b] ∧ SameP S n a b then Res.ok (D.bl true) S else Res.stk) : List D → List Cell → Res D) = m_same n := rfl
    have c62n : ∀ k : Nat, k ≤ 1000 → c62 (k : Int) = true := fun k hk => by unfold c62; simp; omega
    unfold bSame
    cases b with
    | adr _ => cases a <;> exact hs.elim
    | lam _ _ _ => cases a <;> exact hs.elim
    | non =>
      cases a with
      | non => exact ref_pure0 (by simp) (by simp [startD])
      | _ => exact hs.elim
    | bl x =>
      cases a with
      | bl y =>
        have : y = x := hs
        subst this
        exact ref_pure0 (by simp) (by simp [startD])
      | _ => exact hs.elim
    | int x =>
      cases a with
      | int y =>
        have : y = x := hs
        subst this
        exact ref_pure0 (by simp) (by simp [startD])
      | _ => exact hs.elim
    | str x =>
      cases a with
      | str y =>
        obtain ⟨rfl, hx⟩ : y = x ∧ ∀ c ∈ y, c < 0x110000 := hs
        exact ref_pure0 (by simp) (by simp [startD, oEq_str hx hx])
      | _ => exact hs.elim
    | cst _ => cases a <;> exact hs.elim
    | tup ys =>
      cases a with
      | tup xs =>
        obtain ⟨hl, hs⟩ : xs.length ≤ 1000 ∧ sameL (SameP S n) xs ys := hs
        obtain ⟨hl2, hk⟩ := sameL_get hs
        refine ref_pure (junk := [.lst [], .lst []]) (by simp) ?_
        have e := lc_none (g := gN 2) (t := (mNot (mTru (mCall (m_same n) (mCons (mBin oIxA (mVar 0) (mVar 2)) (mCons (mBin oIxA (mVar 1) (mVar 2)) mNil)))))) (e := mC (.int 1)) (ws := [2]) (sd := [some (.tup xs), some (.tup ys), none]) (S := S) (n := ys.length) (line_le (by omega)) (fun k hk' => ⟨_, rfl, by
          have h1 : k < xs.length := by omega
          have e1 : xs[k]? = some xs[k] := by simp [h1]
          have e2 : ys[k]? = some ys[k] := by simp [hk']
          simp only [mNot_ev, mTru_ev, mCall_ev, mCons_ev, mBin_ev, mVar_ev, mNil_ev, wipeD, List.set_cons_succ, List.set_cons_zero, List.getElem?_cons_succ, List.getElem?_cons_zero, bind_ok, oIxA_tup, Int.zero_add, atI_nat', e1, e2, optR_some, hm (hk k h1 hk'), truD_bl]
          rfl⟩)
        have e62 := c62n ys.length (by omega)
        simp only [hst, mSeq_ev, mIf_ev, mTst_ev, mBin_ev, mVar_ev, mC_ev, mTru_ev, mIsi_ev, mOr_ev, mAnd_ev, mNot_ev, mRet_ev, mNext_ev, mAndV_ev, mB_ev, mCons_ev, mNil_ev, mFresh_ev, mLc_ev, mRng1_ev, mLst_ev, bind_ok, thenS_ok, List.getElem?_cons_succ, List.getElem?_cons_zero, oIsN_non, isNonD_tup, blD_bl, optR_some, Bool.false_eq_true, if_false, isi_tup_bool, isi_tup_int, isi_tup_str, isi_tup_list, isi_tup_tuple, truD_bl, Bool.not_true, Bool.not_false,
          oLenA_tup, hl2, oEq_int, beq_self_eq_true, e62, if_true, Int.toNat_natCast, fold, e, List.length_nil, Nat.zero_le, List.length_append, List.length_cons, Nat.zero_add, eq_empty]
        simp
      | _ => exact hs.elim
    | loc j =>
      cases a with
      | loc i =>
        obtain ⟨xs, ys, hi, hj, hl, hs⟩ : ∃ xs ys, cellL S i = some xs ∧ cellL S j = some ys ∧ xs.length ≤ 1000 ∧ sameL (SameP S n) xs ys := hs
        obtain ⟨hl2, hk⟩ := sameL_get hs
        have hi' := cellL_get hi
        have hj' := cellL_get hj
        refine ref_pure (junk := [.lst [], .lst []]) (by simp) ?_
        have e := lc_none (g := gN 2) (t := (mNot (mTru (mCall (m_same n) (mCons (mBin oIxA (mVar 0) (mVar 2)) (mCons (mBin oIxA (mVar 1) (mVar 2)) mNil)))))) (e := mC (.int 1)) (ws := [2]) (sd := [some (.loc i), some (.loc j), none]) (S := S) (n := ys.length) (line_le (by omega)) (fun k hk' => ⟨_, rfl, by
          have h1 : k < xs.length := by omega
          have e1 : xs[k]? = some xs[k] := by simp [h1]
          have e2 : ys[k]? = some ys[k] := by simp [hk']
          simp only [mNot_ev, mTru_ev, mCall_ev, mCons_ev, mBin_ev, mVar_ev, mNil_ev, wipeD, List.set_cons_succ, List.set_cons_zero, List.getElem?_cons_succ, List.getElem?_cons_zero, bind_ok, oIxA_loc, hi', hj', Option.bind_some, Int.zero_add, atI_nat', e1, e2, optR_some, hm (hk k h1 hk'), truD_bl]
          rfl⟩)
        have e62 := c62n ys.length (by omega)
        simp only [hst, mSeq_ev, mIf_ev, mTst_ev, mBin_ev, mVar_ev, mC_ev, mTru_ev, mIsi_ev, mOr_ev, mAnd_ev, mNot_ev, mRet_ev, mNext_ev, mAndV_ev, mB_ev, mCons_ev, mNil_ev, mFresh_ev, mLc_ev, mRng1_ev, mLst_ev, bind_ok, thenS_ok, List.getElem?_cons_succ, List.getElem?_cons_zero, oIsN_non, isNonD_loc, blD_bl, optR_some, Bool.false_eq_true, if_false, isi_loc_bool hj, isi_loc_int hj, isi_loc_str hj, isi_loc_list hj, isi_loc_tuple hj, isi_loc_list hi, truD_bl, Bool.not_true, Bool.not_false,
          oLenA_loc, hi', hj', hl2, oEq_int, beq_self_eq_true, e62, if_true, Int.toNat_natCast, fold, e, List.length_nil, Nat.zero_le, List.length_append, List.length_cons, Nat.zero_add, eq_empty]
        simp
      | _ => exact hs.elim
  · trivial
end Fx

namespace Fx
open PySem PySem.Spec PyProof.Rows L2
/-! ### walking over a text's signs while they are of a kind -/
def scan (p : Nat → Bool) (t : List Nat) (a : Nat) : Nat := a + ((t.drop a).takeWhile p).length
section
variable {p : Nat → Bool} {t : List Nat} {a : Nat} {c : Nat}
theorem scan_end (h : t.length ≤ a) : scan p t a = a := by
  unfold scan
  rw [List.drop_of_length_le h]
  rfl
theorem scan_stop (h : t[a]? = some c) (hc : p c = false) : scan p t a = a := by
  unfold scan
  obtain ⟨hl, e⟩ := List.getElem?_eq_some_iff.mp h
  rw [List.drop_eq_getElem_cons hl, e, List.takeWhile_cons, if_neg (by rw [hc]; exact Bool.false_ne_true)]
  rfl
theorem scan_go (h : t[a]? = some c) (hc : p c = true) : scan p t a = scan p t (a + 1) := by
  unfold scan
  obtain ⟨hl, e⟩ := List.getElem?_eq_some_iff.mp h
  rw [List.drop_eq_getElem_cons hl, e, List.takeWhile_cons, if_pos hc, List.length_cons]
  omega
theorem scan_ge : a ≤ scan p t a := by unfold scan; omega
theorem scan_le (h : a ≤ t.length) : scan p t a ≤ t.length := by
  unfold scan
  have h1 := (List.takeWhile_prefix p (l := t.drop a)).length_le
  rw [List.length_drop] at h1
  omega
theorem wh_scan {T : MT} {B : MS} {S : List Cell} {sdf : Nat → Sl} (h1 : ∀ a c, t[a]? = some c → T (sdf a) S = .ok (p c) S) (h0 : ∀ a, t.length ≤ a → T (sdf a) S = .ok false S) (hb : ∀ a, a < t.length → B (sdf a) S = .nx (sdf (a + 1)) S) :
    ∀ n a, t.length - a < n → whGo T B n (sdf a) S = .nx (sdf (scan p t a)) S := by
  intro n
  induction n with
  | zero => intro a h; omega
  | succ n ih =>
    intro a h
    unfold whGo
    by_cases hl : a < t.length
    · have e1 : t[a]? = some t[a] := by simp [hl]
      rw [h1 a _ e1, thenS_ok]
      cases hp : p t[a] with
      | false =>
        rw [scan_stop e1 hp]
        rfl
      | true =>
        rw [if_pos rfl, hb a hl, scan_go e1 hp]
        exact ih (a + 1) (by omega)
    · rw [h0 a (by omega), thenS_ok, scan_end (by omega)]
      rfl
theorem cut_nat {α : Type} (xs : List α) (h w : Nat) : cutG xs (some (h : Int)) (some ((h : Int) + (w : Int))) = (xs.drop h).take w := by
  have e : ((h : Int) + (w : Int)) = ((h + w : Nat) : Int) := by omega
  unfold cutG
  rw [e, HT.sIx_nat, HT.sIx_nat]
  by_cases hh : h ≤ xs.length
  · rw [Nat.min_eq_left hh, List.take_eq_take_iff, List.length_drop]
    omega
  · rw [List.drop_of_length_le (by omega), List.drop_of_length_le (by omega)]
    simp
/-- text[a:a + 1] -/
theorem cut_one (h : t[a]? = some c) : cutG t (some (a : Int)) (some ((a : Int) + 1)) = [c] := by
  have := cut_nat t a 1
  rw [show ((1 : Nat) : Int) = 1 from rfl] at this
  rw [this]
  obtain ⟨hl, e⟩ := List.getElem?_eq_some_iff.mp h
  rw [List.drop_eq_getElem_cons hl, e]
  rfl
theorem cut_none (h : t.length ≤ a) : cutG t (some (a : Int)) (some ((a : Int) + 1)) = [] := by
  have := cut_nat t a 1
  rw [show ((1 : Nat) : Int) = 1 from rfl] at this
  rw [this, List.drop_of_length_le h]
  rfl
/-- text[a:b] -/
theorem cut_ab {a b : Nat} (h : a ≤ b) : cutG t (some (a : Int)) (some (b : Int)) = (t.drop a).take (b - a) := by
  have := cut_nat t a (b - a)
  rw [show ((a : Int) + ((b - a : Nat) : Int)) = (b : Int) by omega] at this
  exact this
theorem lt_one {x y : Nat} : decide (([x] : List Nat) < [y]) = decide (x < y) := by
  by_cases h : x < y
  · rw [decide_eq_true h]
    exact decide_eq_true (List.Lex.rel h)
  · rw [decide_eq_false h]
    refine decide_eq_false fun z => ?_
    cases z with
    | rel q => exact h q
    | cons q => cases q
theorem lt_nil {y : Nat} : decide (([] : List Nat) < [y]) = true := decide_eq_true List.Lex.nil
theorem not_lt_nil {y : Nat} : decide (([y] : List Nat) < []) = false := decide_eq_false fun z => by cases z
def okT (x : List Nat) : Bool := x.all (· < 0x110000)
theorem eq_str {x y : List Nat} {S : List Cell} (hx : okT x = true) (hy : okT y = true) : oEq (.str x) (.str y) S = .ok (.bl (x == y)) S := by
  unfold okT at hx hy
  have e : PyData.eqv (.str ⟨x.toArray⟩) (.str ⟨y.toArray⟩) = (x == y) := by
    have h1 : PyData.eqv (.str ⟨x.toArray⟩) (.str ⟨y.toArray⟩) = ((⟨x.toArray⟩ : Str) == ⟨y.toArray⟩) := by simp [PyData.eqv]
    rw [h1]
    by_cases h : x = y
    · subst h; simp
    · have : ¬ ((⟨x.toArray⟩ : Str) = ⟨y.toArray⟩) := fun z => h (by
        have := congrArg Str.cps z
        simpa using this)
      rw [beq_eq_false_iff_ne.mpr this, beq_eq_false_iff_ne.mpr h]
  unfold oEq eqD
  rw [pyD_str, pyD_str, if_pos hx, if_pos hy]
  simp [e]
theorem ne_str {x y : List Nat} {S : List Cell} (hx : okT x = true) (hy : okT y = true) : oNe (.str x) (.str y) S = .ok (.bl (x != y)) S := by
  have h := eq_str (S := S) hx hy
  unfold oEq at h
  unfold oNe
  cases e : eqD S (.str x) (.str y) with
  | none => rw [e] at h; cases h
  | some b =>
    rw [e] at h
    have : b = (x == y) := by
      injection h with h1
      injection h1
    simp [this, bne]
end
end Fx

namespace Fx
open PySem PySem.Spec PyProof.Rows L2
/-! ### the tape in a law's body: cell 0 the script, cell 1 the tape -/
abbrev Tp : Type := Nat × Int × Int
def tpc (ns : List Int) (st : Tp) (rest : List Cell) : List Cell := .lst (ns.map D.int) :: .lst [.loc 0, .int st.1, .int st.2.1, .int st.2.2] :: rest
def okst (st : Tp) : Prop := 0 ≤ st.2.1 ∧ 0 ≤ st.2.2 ∧ st.2.2 < 2147483647
/-- one draw: what is drawn, and the tape behind it -/
def nx (ns : List Int) (st : Tp) (many : Int) : Int × Tp := nextV ns st.1 st.2.1 st.2.2 many
theorem nx_ok {ns : List Int} {st : Tp} {many : Int} (hm : 0 < many) (h : okst st) : 0 ≤ (nx ns st many).1 ∧ (nx ns st many).1 < many ∧ okst (nx ns st many).2 := by
  obtain ⟨p, r, s⟩ := st
  obtain ⟨h1, h2, h3⟩ := h
  have q1 : ∀ x : Int, 0 ≤ x % many ∧ x % many < many := fun x => ⟨Int.emod_nonneg _ (by omega), Int.emod_lt_of_pos _ hm⟩
  have hc : 0 ≤ cellV ns p := by
    unfold cellV
    split <;> omega
  unfold nx nextV
  simp only
  generalize cellV ns p = cell at hc
  by_cases hr : r = 0
  · rw [if_pos hr]
    by_cases hl : cell < 10 ^ 18
    · rw [if_pos hl]
      exact ⟨(q1 _).1, (q1 _).2, h1, Int.emod_nonneg _ (by decide), Int.emod_lt_of_pos _ (by decide)⟩
    · rw [if_neg hl]
      exact ⟨(q1 _).1, (q1 _).2, Int.ediv_nonneg hc (by omega), h2, h3⟩
  · rw [if_neg hr]
    exact ⟨(q1 _).1, (q1 _).2, Int.ediv_nonneg h1 (by omega), h2, h3⟩
theorem tape_tpc {ns : List Int} {st : Tp} (h : okst st) (rest : List Cell) : tapeAt (tpc ns st rest) 1 = some (0, ns, st.1, st.2.1, st.2.2) := by
  obtain ⟨p, r, s⟩ := st
  obtain ⟨h1, h2, h3⟩ := h
  unfold tapeAt tpc
  simp only [List.getElem?_cons_succ, List.getElem?_cons_zero, intsD_map]
  rw [if_pos ⟨by decide, Int.natCast_nonneg _, h1, h2, h3⟩]
  simp
theorem m_nx {ns : List Int} {st : Tp} {many : Int} (h : okst st) (hm : 0 < many) (hm2 : many < 1073741824) (rest : List Cell) :
    m_next [.loc 1, .int many] (tpc ns st rest) = .ok (.int (nx ns st many).1) (tpc ns (nx ns st many).2 rest) := by
  unfold m_next
  simp only [tape_tpc h]
  rw [if_pos ⟨hm, hm2⟩]
  rfl
/-- the tape in the store of a def -/
def tapeOf : List Cell → Option (List Int × Tp × List Cell)
  | .lst xs :: .lst [.loc 0, .int p, .int r, .int s] :: rest => match intsD xs with
    | some ns => if 0 ≤ p ∧ 0 ≤ r ∧ 0 ≤ s ∧ s < 2147483647 then some (ns, (p.toNat, r, s), rest) else none
    | none => none
  | _ => none
theorem tapeOf_tpc {ns : List Int} {st : Tp} (h : okst st) (rest : List Cell) : tapeOf (tpc ns st rest) = some (ns, st, rest) := by
  obtain ⟨p, r, s⟩ := st
  obtain ⟨h1, h2, h3⟩ := h
  unfold tapeOf tpc
  simp only [intsD_map]
  rw [if_pos ⟨Int.natCast_nonneg _, h1, h2, h3⟩]
  simp
theorem tapeOf_some {S : List Cell} {ns : List Int} {st : Tp} {rest : List Cell} (h : tapeOf S = some (ns, st, rest)) : S = tpc ns st rest ∧ okst st := by
  unfold tapeOf at h
  split at h
  · rename_i xs p r s rest'
    split at h
    · rename_i ns' e
      split at h
      · rename_i hc
        cases h
        obtain ⟨h0, h1, h2, h3⟩ := hc
        refine ⟨?_, h1, h2, h3⟩
        unfold tpc
        rw [intsD_eq e, Int.toNat_of_nonneg h0]
      · cases h
    · cases h
  · cases h
/-- a def that draws, and does nothing else to the store -/
theorem ref_tape {ns : List Int} {st st' : Tp} {rest junk : List Cell} {d : D} {b : ResS} (hd : d.bel (tpc ns st' rest).length) (h : b = .rt d (tpc ns st' rest ++ junk)) : RefR (tpc ns st rest) (.ok d (tpc ns st' rest)) b := by
  refine ⟨by simp [tpc], hd, fun c hc => ?_, junk, .inl h⟩
  unfold tpc at hc ⊢
  rcases List.mem_cons.mp hc with hc | hc
  · exact .inl (by rw [hc]; simp)
  · rcases List.mem_cons.mp hc with hc | hc
    · exact .inr (by rw [hc]; simp [Cell.bel])
    · exact .inl (by simp [hc])
/-- n draws in a row, each by f -/
def drawL {α : Type} (f : Tp → α × Tp) : Nat → Tp → List α × Tp
  | 0, st => ([], st)
  | n + 1, st => ((f st).1 :: (drawL f n (f st).2).1, (drawL f n (f st).2).2)
theorem drawL_ok {α : Type} {f : Tp → α × Tp} {p : α → Prop} (h : ∀ st, okst st → p (f st).1 ∧ okst (f st).2) : ∀ (n : Nat) (st : Tp), okst st → (drawL f n st).1.length = n ∧ (∀ x ∈ (drawL f n st).1, p x) ∧ okst (drawL f n st).2
  | 0, st, hs => ⟨rfl, fun x hx => (by cases hx), hs⟩
  | n + 1, st, hs => by
    obtain ⟨h1, h2⟩ := h st hs
    obtain ⟨i1, i2, i3⟩ := drawL_ok h n _ h2
    refine ⟨by simp [drawL, i1], fun x hx => ?_, i3⟩
    rcases List.mem_cons.mp hx with hx | hx
    · rw [hx]; exact h1
    · exact i2 x hx
/-- [f(tape) for k in xs] -/
theorem lc_draw {it : ItD} (hg : it.g = none) {ws : List Nat} {g : MG} {e : ME} {sd : Sl} {ns : List Int} {rest : List Cell} {f : Tp → D × Tp} (h : ∀ (x : D) (st : Tp), okst st → ∃ sd1, g x (wipeD sd ws) (tpc ns st rest) = .ok sd1 (tpc ns st rest) ∧ e sd1 (tpc ns st rest) = .ok (f st).1 (tpc ns (f st).2 rest)) (hk : ∀ st, okst st → okst (f st).2) :
    ∀ (xs acc : List D) (st : Tp), okst st → acc.length + xs.length ≤ 100000 → lcGo it ws g mYes e sd xs acc (tpc ns st rest) = .ok (acc ++ (drawL f xs.length st).1) (tpc ns (drawL f xs.length st).2 rest)
  | [], acc, st, hs, _ => by
    have ok : it.okAt (tpc ns st rest) := by unfold ItD.okAt; rw [hg]; trivial
    unfold lcGo
    rw [if_pos ok]
    simp [drawL]
  | x :: xs, acc, st, hs, hz => by
    have ok : it.okAt (tpc ns st rest) := by unfold ItD.okAt; rw [hg]; trivial
    obtain ⟨sd1, e1, e2⟩ := h x st hs
    rw [List.length_cons] at hz
    have hl : acc.length < sizeLine := by have : acc.length + 1 ≤ sizeLine := line_le (by omega); omega
    have ih := lc_draw hg h hk xs (acc ++ [(f st).1]) _ (hk st hs) (by rw [List.length_append, List.length_singleton]; omega)
    unfold lcGo
    rw [if_pos ok]
    simp only [e1, mYes_ev, if_true, e2, hl, ih]
    simp [drawL]
end Fx

namespace Fx
open PySem PySem.Spec PyProof.Rows L2
/-! ### a module's dict of texts, told by what the top has written -/
def keysB (es : Array DictEntry) (ps : List (String × String)) : Bool := es.toList.all fun e => match e.key with
  | .str y _ => ps.any fun p => Str.ofString p.1 == y
  | _ => false
theorem stS_cs (s : String) : stS (cs s) = Str.ofString s := str_back _
theorem ktab_mk {K : PySem.W.Frag} {w : World} {h : Heap} {mg : Str → Option Value} {x : Str} {d : Addr} {es : Array DictEntry} {n : Nat} {ps : List (String × String)} {tab : TabT} (X : K.In h) (G : h.Ns mainGlobals mg)
    (a : PySem.W.nsIn K mainGlobals x = some (some (.ref d))) (l : K.lookup d = some ⟨.type "dict", none, .dict es n, #[]⟩) (lit : PySem.W.KeysLit w.params es.toList) (low : (d == sysModules) = false)
    (hv : ∀ p ∈ ps, ∃ t, PySem.W.nsIn K d (Str.ofString p.1) = some (some (.str (Str.ofString p.2) t))) (tb : keysB es ps = true) (ht : tab = ps.map fun p => (cs p.1, cs p.2)) : KTab K w mg x tab := by
  refine ⟨d, es, n, PySem.W.mg_of X G a, l, lit, low, fun z => ⟨fun v hz => ?_, fun hz => ?_⟩⟩
  · unfold lookT at hz
    obtain ⟨q, h1, h2⟩ := Option.map_eq_some_iff.mp hz
    have hm := List.mem_of_find?_eq_some h1
    have hx := List.find?_some h1
    have hx : q.1 = z := by simpa using hx
    rw [ht] at hm
    obtain ⟨p, hp, rfl⟩ := List.mem_map.mp hm
    obtain ⟨t, e⟩ := hv p hp
    refine ⟨t, ?_⟩
    rw [← hx, ← h2, stS_cs, stS_cs]
    exact PySem.W.find_K l e
  · unfold keysB at tb
    rw [List.all_eq_true] at tb
    unfold findBy
    rw [Option.map_eq_none_iff]
    obtain ⟨ls⟩ := es
    rw [List.find?_toArray, List.find?_eq_none]
    intro e he hq
    have := tb e he
    split at this
    · rename_i y t ek
      rw [List.any_eq_true] at this
      obtain ⟨p, hp, hy⟩ := this
      have hy := eq_of_beq hy
      rw [ek] at hq
      have hq : stS z = y := by
        unfold Value.isStrOf at hq
        first | exact eq_of_beq hq | exact (eq_of_beq hq).symm | simpa using hq
      unfold lookT at hz
      rw [Option.map_eq_none_iff, ht, List.find?_eq_none] at hz
      refine hz (cs p.1, cs p.2) (List.mem_map.mpr ⟨p, hp, rfl⟩) ?_
      have : cs p.1 = z := by
        have e1 := congrArg (fun s : Str => s.cps.toList) (hy.trans hq.symm)
        unfold cs
        rw [e1]
        simp [stS]
      rw [this]
      exact beq_self_eq_true _
    · cases this
end Fx

namespace Fx
open PySem PySem.Spec PyProof.Rows L2
/-! ### instances: making, fields, methods -/
def insD (S : List Cell) : D → Option (Nat × String × List (String × D))
  | .loc n => match S[n]? with
    | some (.ins c fs) => some (n, c, fs)
    | _ => none
  | _ => none
def fldD (f : String) : List (String × D) → Option D
  | [] => none
  | (g, d) :: r => if g = f then some d else fldD f r
def putFD (f : String) (d : D) : List (String × D) → List (String × D)
  | [] => [(f, d)]
  | (g, x) :: r => if g = f then (g, d) :: r else (g, x) :: putFD f d r
/-- what is asked of a class for its field f -/
def FldK (mg : Str → Option Value) (K : PySem.W.Frag) (c f : String) : Prop := ∀ C, mg (Str.ofString c) = some (.ref C) → Cls K C ∧ NoAttr K C (Str.ofString f)
section
variable {mg : Str → Option Value} {K : PySem.W.Frag} {μ : Mu} {S : List Cell} {H : Hp}
theorem insD_ok {d : D} {x : V} {n : Nat} {c : String} {fs : List (String × D)} (hs : StoRep mg K μ S H) (r : RepV K μ H d x) (h : insD S d = some (n, c, fs)) :
    d = .loc n ∧ ∃ (a C dx : Addr) (ws : List (Str × V)), x = .ref a ∧ μ[n]? = some a ∧ mg (Str.ofString c) = some (.ref C) ∧ H a = some (.ins C dx ws) ∧ ws.map (·.1) = fs.map (fun p => Str.ofString p.1) ∧ RepL K μ H (fs.map (·.2)) (ws.map (·.2)) := by
  unfold insD at h
  split at h
  · split at h
    · rename_i e
      cases h
      cases r with
      | loc em =>
        obtain ⟨C, dx, ws, h1, h2, h3, h4⟩ := hs.at_ _ _ _ e em
        exact ⟨rfl, _, C, dx, ws, rfl, em, h1, h2, h3, h4⟩
    · cases h
  · cases h
theorem fldD_ok {f : String} {d : D} : ∀ {fs : List (String × D)} {ws : List (Str × V)}, ws.map (·.1) = fs.map (fun p => Str.ofString p.1) → RepL K μ H (fs.map (·.2)) (ws.map (·.2)) → fldD f fs = some d → ∃ v, ws.lookup (Str.ofString f) = some v ∧ RepV K μ H d v
  | [], _, _, _, h => by cases h
  | (g, x) :: r, [], e, _, _ => by cases e
  | (g, x) :: r, (y, v) :: ws, e, rl, h => by
    rw [List.map_cons, List.map_cons] at e
    injection e with e1 e2
    have ey : y = Str.ofString g := e1
    cases rl with
    | cons r1 r2 =>
      unfold fldD at h
      split at h
      · rename_i hg
        cases h
        subst hg
        exact ⟨v, by rw [ey, List.lookup_cons_self], r1⟩
      · rename_i hg
        obtain ⟨v', h1, h2⟩ := fldD_ok e2 r2 h
        refine ⟨v', ?_, h2⟩
        rw [List.lookup_cons]
        have : (Str.ofString f == y) = false := by
          rw [ey]
          exact beq_eq_false_iff_ne.mpr fun z => hg (ofString_inj z.symm)
        rw [this]
        exact h1
theorem noF_ok {f : String} : ∀ {fs : List (String × D)} {ws : List (Str × V)}, ws.map (·.1) = fs.map (fun p => Str.ofString p.1) → fldD f fs = none → ws.lookup (Str.ofString f) = none
  | [], [], _, _ => rfl
  | [], _ :: _, e, _ => by cases e
  | (g, x) :: r, [], e, _ => by cases e
  | (g, x) :: r, (y, v) :: ws, e, h => by
    rw [List.map_cons, List.map_cons] at e
    injection e with e1 e2
    have e1 : y = Str.ofString g := e1
    unfold fldD at h
    split at h
    · cases h
    · rename_i hg
      rw [List.lookup_cons]
      have : (Str.ofString f == y) = false := by
        rw [e1]
        exact beq_eq_false_iff_ne.mpr fun z => hg (ofString_inj z.symm)
      rw [this]
      exact noF_ok e2 h
theorem putF_ok {f : String} {d : D} {v : V} (rv : RepV K μ H d v) : ∀ {fs : List (String × D)} {ws : List (Str × V)}, ws.map (·.1) = fs.map (fun p => Str.ofString p.1) → RepL K μ H (fs.map (·.2)) (ws.map (·.2)) →
    (putF (Str.ofString f) v ws).map (·.1) = (putFD f d fs).map (fun p => Str.ofString p.1) ∧ RepL K μ H ((putFD f d fs).map (·.2)) ((putF (Str.ofString f) v ws).map (·.2))
  | [], [], _, _ => ⟨rfl, .cons rv .nil⟩
  | [], _ :: _, e, _ => by cases e
  | (g, x) :: r, [], e, _ => by cases e
  | (g, x) :: r, (y, u) :: ws, e, rl => by
    rw [List.map_cons, List.map_cons] at e
    injection e with e1 e2
    have e1 : y = Str.ofString g := e1
    cases rl with
    | cons r1 r2 =>
      unfold putF putFD
      by_cases hg : g = f
      · subst hg
        rw [if_pos e1, if_pos rfl]
        refine ⟨?_, .cons rv r2⟩
        rw [List.map_cons, List.map_cons, e2, e1]
      · have hy : ¬ y = Str.ofString f := fun z => hg (ofString_inj (e1.symm.trans z))
        rw [if_neg hy, if_neg hg]
        obtain ⟨h1, h2⟩ := putF_ok (f := f) rv e2 r2
        refine ⟨?_, .cons r1 h2⟩
        rw [List.map_cons, List.map_cons, h1, e1]
theorem putF_len (f : Str) (v : V) : ∀ ws : List (Str × V), (putF f v ws).length ≤ ws.length + 1
  | [] => by simp [putF]
  | (g, x) :: r => by
    unfold putF
    split
    · simp
    · have := putF_len f v r
      simp only [List.length_cons]
      omega
/-- an instance's cell is written -/
theorem ins_put {n : Nat} {a C dx dx' : Addr} {c : String} {ws ws' : List (Str × V)} {fs : List (String × D)} (hs : StoRep mg K μ S H) (em : μ[n]? = some a) (hC : mg (Str.ofString c) = some (.ref C)) (e : H a = some (.ins C dx ws)) (k : ws'.map (·.1) = fs.map (fun p => Str.ofString p.1))
    (r : RepL K μ H (fs.map (·.2)) (ws'.map (·.2))) : Up μ H μ (upd H a (.ins C dx' ws')) ∧ StoRep mg K μ (S.set n (.ins c fs)) (upd H a (.ins C dx' ws')) := by
  have m1 : ∀ xs, H a ≠ some (.tup xs) := fun xs q => by rw [e] at q; cases q
  have m2 : ∀ o u, H a ≠ some (.frz o u) := fun o u q => by rw [e] at q; cases q
  have m3 : ∀ o, H a ≠ some (.ext o) := fun o q => by rw [e] at q; cases q
  have u := up_mut (o := .ins C dx' ws') (List.mem_of_getElem? em) m1 m2 m3
  exact ⟨u, hs.mut em m1 m2 m3 ⟨C, dx', ws', hC, upd_same, k, r.up u⟩⟩
end
/-! ### e.f -/
def mFld (cl : List String) (f : String) (m : ME) : ME := fun sd S => (m sd S).bind fun d S1 => match insD S1 d with
  | some (_, c, fs) => if c ∈ cl then optR (fldD f fs) S1 else .stk
  | none => .stk
section
variable {X : Cx} {W : WX}
theorem se_fld {o : Expr} {mo : ME} {cl : List String} {f : String} {pos : Pos} (Z : ∀ c ∈ cl, FldK X.mg X.K c f) (ho : SE X W o mo) (hb : attributeBase o (Str.ofString f) X.env (eval o X.env) = eval o X.env := by rfl) : SE X W (.Attribute o (Str.ofString f) pos) (mFld cl f mo) :=
  (pe_fld ho hb).impF fun σ H Q ⟨μ, S, sd, hs, hl, h⟩ => tE_bind hs hl h fun d S1 μ1 x H1 s1 l1 u1 r1 h1 => by
    split at h1
    · rename_i n c fs ei
      split at h1
      · rename_i hc
        obtain ⟨rfl, a, C, dx, ws, rfl, em, hC, e, k, r⟩ := insD_ok s1 r1 ei
        obtain ⟨z1, z2⟩ := Z c hc C hC
        cases ef : fldD f fs with
        | none => rw [ef] at h1; exact h1.elim
        | some v =>
          rw [ef] at h1
          obtain ⟨w, e2, rw2⟩ := fldD_ok k r ef
          exact ⟨a, C, dx, ws, w, rfl, e, z1, z2, e2, h1 _ H1 μ1 .refl s1 rw2⟩
      · exact h1.elim
    · exact h1.elim
/-- e.f = v -/
def mSetF (cl : List String) (f : String) (mo mv : ME) : MS := fun sd S => (mv sd S).thenS sd fun d S1 => (mo sd S1).thenS sd fun e S2 => match insD S2 e with
  | some (n, c, fs) => if c ∈ cl ∧ fs.length < 1000 then .nx sd (S2.set n (.ins c (putFD f d fs))) else .stk
  | none => .stk
theorem ss_fld {o value : Expr} {mo mv : ME} {cl : List String} {f : String} {pos pos' : Pos} (Z : ∀ c ∈ cl, FldK X.mg X.K c f) (ho : SE X W o mo) (hv : SE X W value mv) (hsw : swapsWith value (some (.Attribute o (Str.ofString f) pos')) pos.line X.env = pure false := by rfl) :
    SS X W (.Assign [.Attribute o (Str.ofString f) pos'] value pos) (mSetF cl f mo mv) :=
  (ps_fld ho hv hsw).impF fun D σ H ⟨μ, S, sd, hs, hl, h⟩ => tE_then hs hl h fun d S1 μ1 v H1 s1 l1 u1 r1 h1 => tE_then s1 l1 h1 fun e S2 μ2 x H2 s2 l2 u2 r2 h2 => by
    split at h2
    · rename_i n c fs ei
      split at h2
      · rename_i hc
        obtain ⟨rfl, a, C, dx, ws, rfl, em, hC, ea, k, r⟩ := insD_ok s2 r2 ei
        obtain ⟨z1, z2⟩ := Z c hc.1 C hC
        have hlen : ws.length = fs.length := by
          have := congrArg List.length k
          simpa using this
        obtain ⟨k', r'⟩ := putF_ok (f := f) (r1.up u2) k r
        obtain ⟨u, s3⟩ := ins_put (dx' := dx) s2 em hC ea k' r'
        exact ⟨a, C, dx, ws, rfl, ea, z1, z2, by omega, h2 σ _ μ2 u s3 (l2.up u)⟩
      · exact h2.elim
    · exact h2.elim
end
/-! ### C(..) -/
/-- a class of the module: what making one does -/
def MkM (P : Program) (w : World) (K : PySem.W.Frag) (mg : Str → Option Value) (base : Heap) (k : Nat) (c : String) (n : Nat) (m : List D → List Cell → Res D) : Prop :=
  ∃ C fI fd ps, mg (Str.ofString c) = some (.ref C) ∧ Mk K C fI ∧ Binds K fd ps [] ∧ FnOk P w K mg base (L2.CX P w) k fI fd ps (spM mg K (n + 1) m)
theorem MkM.mono {P : Program} {w : World} {K : PySem.W.Frag} {mg : Str → Option Value} {base : Heap} {j k : Nat} {c : String} {n : Nat} {m : List D → List Cell → Res D} (F : MkM P w K mg base j c n m) (h : j ≤ k) : MkM P w K mg base k c n m := by
  obtain ⟨C, fI, fd, ps, h1, h2, h3, h4⟩ := F
  exact ⟨C, fI, fd, ps, h1, h2, h3, h4.mono h⟩
def mkRes (n : Nat) : Res D → Res D
  | .ok .non S2 => .ok (.loc n) S2
  | .exc x S2 => .exc x S2
  | _ => .stk
def mMake (c : String) (m : List D → List Cell → Res D) (a : MA) : ME := fun sd S => (a sd S).bind fun ds S1 => mkRes S1.length (m (.loc S1.length :: ds) (S1 ++ [.ins c []]))
section
variable {X : Cx} {W : WX}
theorem run_mk {k : Nat} {f C : Addr} {fd : FuncData} {ps : List Str} {sp : Sp} {E : XK} {pins : List (Addr × Obj)} {σ : L2.St} {H : Hp} {s : Shared} {Q : VK} {us : List Value} {vs : List V} (M : Mk X.K C f) (F : FnOk X.prog X.w X.K X.mg X.base (L2.CX X.prog X.w) k f fd ps sp)
    (rm : Room (k + 1) X.A) (bd : Binds X.K fd ps []) (pa : PassesAt (L2.CX X.prog X.w) X σ E) (I : Inv X pins σ H s) (rv : Vals vs us)
    (hq : ∀ x dx, H x = none → H dx = none → dx ≠ x → sp (.ref x :: vs) (upd (upd H dx (.own x)) x (.ins C dx [])) (fun v H2 => v = .non ∧ Q (.ref x) H2) E) : wpAny (model X.prog X.w) X.A (call (.ref C) us) (EP X pins σ Q) X.xe s := by
  have q0 := hq (s.heap.objs.size + 1) s.heap.objs.size (I.hok.fresh (Nat.le_add_right _ 1)) (I.hok.fresh (Nat.le_refl _)) (Nat.ne_of_lt (Nat.lt_succ_self _))
  have J := Inv.made (C := C) I
  have rv2 : Vals (V.ref (s.heap.objs.size + 1) :: vs) (Value.ref (s.heap.objs.size + 1) :: us) := .cons rfl rv
  have ln : (Value.ref (s.heap.objs.size + 1) :: us).length = ps.length := rv2.length.symm.trans (F.len _ _ _ _ q0)
  have bd2 := bd _ (Value.ref (s.heap.objs.size + 1) :: us) J.kIn (by rw [List.append_nil]; exact ln)
  rw [List.append_nil] at bd2
  have run := F.run _ X.stack _ _ ⟨Value.ref (s.heap.objs.size + 1) :: us, []⟩ (Value.ref (s.heap.objs.size + 1) :: us) _ _ E (rm.make C us []) (J.env0.make C us []) bd2 rv2 q0
  refine wpAny_call (make_map (f := f) I.kIn M.makes M.init (beq_iff_eq.mp M.fn) (codeAny_mono run fun r s' z => ?_))
  match r with
  | .error e => exact pa pins _ _ e s' J z
  | .ok (.ret u) =>
    obtain ⟨v, H', J3, rv3, ev, q3⟩ := J.after z
    subst ev
    exact ⟨rv3, ⟨V.ref (s.heap.objs.size + 1), H', J3, rfl, q3⟩⟩
  | .ok .next => exact z.elim
  | .ok .brk => exact z.elim
  | .ok .cont => exact z.elim
theorem se_make {k n : Nat} {c : String} {m : List D → List Cell → Res D} {e : Expr} {es : List Expr} {ma : MA} {p pos : Pos} (F : MkM X.prog X.w X.K X.mg X.base k c n m) (hr : Room (k + 1) X.A) (tk : Takes X W) (ha : SA X W (e :: es) ma) (hn : ∀ sd S ds S', ma sd S = .ok ds S' → ds.length = n)
    (hg : Gl X (Str.ofString c) := by rfl) (hdb : (Str.ofString c == ("__debug__" : Str)) = false := by decide) (he : starEach (e :: es) X.env = (false, eval e X.env) :: starEach es X.env := by rfl) (hpl : (backTo pos (starEach es X.env)).any (·.1) = false := by rfl) :
    SE X W (.Call (.Name (Str.ofString c) p) (e :: es) [] pos) (mMake c m ma) := by
  obtain ⟨C, fI, fd, ps, h1, h2, h3, h4⟩ := F
  refine ⟨fun pins s σ H Q I ⟨μ, S, sd, hs, hl, h⟩ => ?_⟩
  refine wpAny_Call_Name_kw (ld_glob I hg h1 ?_ hdb)
  have ht : tA X W ma σ H fun vs H1 => ∀ x dx, H1 x = none → H1 dx = none → dx ≠ x → spM X.mg X.K (n + 1) m (.ref x :: vs) (upd (upd H1 dx (.own x)) x (.ins C dx [])) (fun v H2 => v = .non ∧ Q (.ref x) H2) (WE W σ) := by
    refine ⟨μ, S, sd, hs, hl, ?_⟩
    have h' := FinA.bind (Rep := RepL X.K) h
    generalize hr : ma sd S = r at h h'
    cases r with
    | stk => exact h'
    | exc x S' => exact h'
    | ok ds S1 =>
      intro vs H1 μ1 u1 s1 r1 x dx nx ndx hne
      have hd : FinA X.mg X.K (RepV X.K) (fun c d H' => W c d σ H') μ1 H1 (mkRes S1.length (m (.loc S1.length :: ds) (S1 ++ [.ins c []]))) Q := h' vs H1 μ1 u1 s1 r1
      have ndx' : upd H1 dx (.own x) x = none := by rw [upd_ne (Ne.symm hne)]; exact nx
      have s2 := s1.tmp (o := .own x) ndx
      have uu : Up μ1 H1 μ1 (upd H1 dx (.own x)) := up_tmp ndx
      have s3 := s2.alloc (o := .ins C dx []) (c := .ins c []) ndx' ⟨C, dx, [], h1, upd_same, rfl, .nil⟩
      have u3 : Up μ1 H1 (μ1 ++ [x]) (upd (upd H1 dx (.own x)) x (.ins C dx [])) := uu.trans (up_new ndx')
      have rx : RepV X.K (μ1 ++ [x]) (upd (upd H1 dx (.own x)) x (.ins C dx [])) (.loc S1.length) (.ref x) := .loc (by rw [← s1.len]; simp)
      refine ⟨?_, μ1 ++ [x], S1 ++ [.ins c []], .loc S1.length :: ds, s3, .cons rx (r1.up u3), ?_⟩
      · rw [List.length_cons, ← r1.length, hn _ _ _ _ hr]
      · generalize m (.loc S1.length :: ds) (S1 ++ [.ins c []]) = q at hd
        cases q with
        | stk => exact (show False from hd).elim
        | exc y S2 => exact fun cls d H' μ' u s x => hd cls d H' μ' (u3.trans u) s x
        | ok d S2 =>
          cases d with
          | non => exact fun v H' μ' u s r => ⟨by cases r; rfl, hd (.ref x) H' μ' (u3.trans u) s (rx.up u)⟩
          | _ => exact hd.elim
  refine PySem.W.callWith_K (h₀ := X.base) I.ok.mod.kin h2.kp (thn (ha.run pos pins s σ H _ I ht) fun us s1 ⟨vs, H1, I1, r, q⟩ => ⟨I1.kIn, ?_⟩) he hpl
  exact run_mk h2 h4 hr h3 (passAt tk σ) I1 r q
end
end Fx

namespace Fx
open PySem PySem.Spec PyProof.Rows L2
/-! ### a lambda with parameters, handed to a def of the module -/
/-- the lambda's names: its parameters ps, what it has caught, what is global -/
structure LamP (N : List Str) (sc scope : Scope) (ps : List Str) : Prop where
  kind : scope.kind = .function
  co : scope.isCoroutine = false
  gen : scope.isGenerator = false
  own : ∀ y ∈ scope.names, y.2 ≠ .cell ∧ (y.2 = .local → y.1 ∈ ps)
  par : ∀ p ∈ ps, scope.names.lookup p = some .local
  free : ∀ y ∈ scope.names, y.2 = .free → sc.names.lookup y.1 = some .cell ∨ sc.names.lookup y.1 = some .free
  nd : ps.Nodup
  ap : ∀ p ∈ ps, p ∉ N
def lamCxP (X : Cx) (A : Around) (outer : List Env) (s : Shared) (H : Hp) (E : XK) (scope : Scope) (f c' : Addr) (ps : List Str) : Cx := { LamX.lamCx X A outer s H E scope f c' with N := X.N ++ ps }
theorem zip_rev {us : List Value} : ∀ {ps : List Str} {us : List Value} {j : Nat} {p : Str} {u : Value}, ps.Nodup → ps[j]? = some p → us[j]? = some u → (ps.zip us).reverse.lookup p = some u := by
  intro ps us j p u nd hp hu
  have hm : (p, u) ∈ ps.zip us := List.mem_of_getElem? (i := j) (by rw [List.getElem?_zip_eq_some]; exact ⟨hp, hu⟩)
  have uni : ∀ w, (p, w) ∈ ps.zip us → w = u := fun w hw => by
    obtain ⟨i, hi⟩ := List.mem_iff_getElem?.mp hw
    rw [List.getElem?_zip_eq_some] at hi
    obtain ⟨h1, h2⟩ := List.getElem?_eq_some_iff.mp hi.1
    obtain ⟨h3, h4⟩ := List.getElem?_eq_some_iff.mp hp
    have : i = j := (List.getElem_inj nd).mp (h2.trans h4.symm)
    rw [this, hu] at hi
    exact (Option.some.inj hi.2).symm
  cases e : (ps.zip us).reverse.lookup p with
  | none =>
    exfalso
    have hm' : (p, u) ∈ (ps.zip us).reverse := by simpa using hm
    generalize (ps.zip us).reverse = l at e hm'
    induction l with
    | nil => cases hm'
    | cons q l ih =>
      rw [List.lookup_cons] at e
      rcases List.mem_cons.mp hm' with h | h
      · rw [← h] at e
        simp at e
      · split at e
        · cases e
        · exact ih e h
  | some w =>
    have := PySem.mem_of_lookup e
    rw [uni w (by simpa using this)]
section
variable {X : Cx} {pins : List (Addr × Obj)} {σ : L2.St} {H HZ : Hp} {s s1 : Shared}
theorem cells_of {scope : Scope} {N ps : List Str} (ok : X.Ok) (L : LamP N X.env.scope scope ps) {y : Str} {c : Addr} (e : (cloFrom X.env.cells scope.names []).lookup y = some c) : X.env.cells.lookup y = some c := by
  rcases cloFrom_mem (PySem.mem_of_lookup e) with hm | ⟨m1, m2⟩
  · cases hm
  · have hq : ∃ c, X.env.cells.lookup y = some c := by
      rcases L.free _ m1 rfl with k | k
      · exact ok.has _ (.inl k)
      · exact ok.has _ (.inr k)
    obtain ⟨c1, q⟩ := hq
    have q' : X.env.cells.lookup y = some c1 := q
    have : c = c1 := by rw [m2, q'] <;> rfl
    rw [this]
    exact q'
theorem lam_inv {A : Around} {outer : List Env} {E : XK} {scope : Scope} {f c' : Addr} {h₁ : Heap} {tk : Nat} {ps : List Str} {us : List Value} {vs : List V} (I : Inv X pins σ H s) (L : LamP X.N X.env.scope scope ps) (e0 : Env0 X.prog X.w X.K X.mg X.base A outer s1 HZ)
    (hd : A.handled = none) (un : Un (frs X.stack) [] H HZ s.heap s1.heap) (rv : Vals vs us) (lv : vs.length = ps.length) (hns : h₁.Ns s1.heap.objs.size fun y => (ps.zip us).reverse.lookup y) (kp : ∀ b o, s1.heap.get? b = some o → h₁.get? b = some o) :
    Inv (lamCxP X A outer s1 HZ E scope f c' ps) [] (σ ++ vs.map some) HZ { s1 with heap := h₁, toks := tk } := by
  have cm := fun {y c} => cells_of (y := y) (c := c) I.ok L
  have fnd : ∀ {y}, scope.names.lookup y = some .free → ∃ c, (cloFrom X.env.cells scope.names []).lookup y = some c := fun {y} q =>
    mem_lookup (cloFrom_has (cells := X.env.cells) (acc := []) (PySem.mem_of_lookup q))
  have stays : ∀ {c : Addr} {v : Option Value}, H c = none → s.heap.IsCell c v → h₁.IsCell c v := fun {c v} n ⟨o, ho, hd⟩ => by
    obtain ⟨sl, q⟩ := un.any ho n (by simp)
    exact ⟨_, kp _ _ q, hd⟩
  have none' : ∀ b : Addr, b ∉ (lamCxP X A outer s1 HZ E scope f c' ps).ex := fun b z => (by cases (show b ∈ ([] : List Addr) from z))
  have hln : σ.length = X.N.length := I.len
  constructor
  · constructor
    · exact e0.mod
    · exact L.kind
    · rfl
    · rfl
    · exact Nat.le_refl _
    · exact fun y z c e1 e2 => I.ok.inj y z c (cm e1) (cm e2)
    · intro y hy
      have hy : scope.names.lookup y = some .cell ∨ scope.names.lookup y = some .free := hy
      rcases hy with hy | hy
      · exact absurd rfl (L.own _ (PySem.mem_of_lookup hy)).1
      · exact fnd hy
    · intro y c z _
      exact absurd (show false = true from z) (by decide)
    · exact fun _ => hd
    · exact Around.frames_deeper e0.frames
    · exact .inr ⟨rfl, rfl⟩
    · exact fun b z => absurd z (none' b)
    · exact e0.bs
    · exact e0.bsz
    · exact fun b _ _ => none' b
    · exact fun b z => absurd z (none' b)
    · exact e0.funs
    · exact e0.frf
  · rfl
  · exact e0.bare
  · exact Un.kept kp
  · refine ⟨_, hns, fun i y v e1 e2 e3 => ?_⟩
    have e1 : (X.N ++ ps)[i]? = some y := e1
    have e3 : Vis scope y := e3
    by_cases hi : i < X.N.length
    · rw [List.getElem?_append_left hi] at e1
      rw [List.getElem?_append_left (by omega)] at e2
      have hyN : y ∈ X.N := List.mem_of_getElem? e1
      rcases e3 with k | k | k
      · exact absurd hyN (L.ap _ ((L.own _ (PySem.mem_of_lookup k)).2 rfl))
      · exact absurd rfl (L.own _ (PySem.mem_of_lookup k)).1
      · obtain ⟨m, hn, hl⟩ := I.loc
        have hvis : Vis X.env.scope y := (L.free _ (PySem.mem_of_lookup k) rfl).elim (fun k => .inr (.inl k)) (fun k => .inr (.inr k))
        obtain ⟨w', r, q⟩ := hl i y v e1 e2 hvis
        obtain ⟨c2, h2⟩ := fnd k
        have c1 := cm h2
        refine ⟨w', r, .inr ⟨.inr k, c2, h2, ?_⟩⟩
        rcases q with ⟨k', _⟩ | ⟨_, c3, e', z⟩
        · exfalso
          have k' : X.env.scope.names.lookup y = some .local := k'
          rcases L.free _ (PySem.mem_of_lookup k) rfl with k2 | k2
          · have k2 : X.env.scope.names.lookup y = some .cell := k2
            rw [k2] at k'; cases k'
          · have k2 : X.env.scope.names.lookup y = some .free := k2
            rw [k2] at k'; cases k'
        · rw [c1] at e'
          cases e'
          exact stays (I.freeC y _ c1) z
    · rw [List.getElem?_append_right (by omega)] at e1 e2
      rw [hln, List.getElem?_map] at e2
      obtain ⟨v0, e4, e5⟩ := Option.map_eq_some_iff.mp e2
      cases e5
      obtain ⟨u, hu, ru⟩ := rv.get e4
      have hyp : y ∈ ps := List.mem_of_getElem? e1
      exact ⟨u, ru, .inl ⟨L.par y hyp, zip_rev (us := us) L.nd e1 hu⟩⟩
  · intro y c e
    obtain ⟨w', z⟩ := I.cell y c (cm e)
    exact ⟨w', stays (I.freeC y c (cm e)) z⟩
  · exact e0.hok.fresh (Nat.le_refl _)
  · intro y c e
    obtain ⟨v, o, ho, _⟩ := I.cell y c (cm e)
    exact un.free c o ho (I.freeC y c (cm e)) (by simp)
  · intro q hq
    cases (show q ∈ ([] : List (Addr × Obj)) ++ [] from hq)
  · exact e0.hok.kept kp
  · show (σ ++ vs.map some).length = (X.N ++ ps).length
    simp [hln, lv]
end
end Fx

namespace Fx
open PySem PySem.Spec PyProof.Rows L2
/-! ### a lambda is made -/
abbrev lq (X : Cx) : Str := X.env.qual ++ "<lambda>"
section
variable {X : Cx} {pins : List (Addr × Obj)} {σ : L2.St} {H : Hp} {s : Shared} {μ : Mu} {S : List Cell}
/-- what holds behind the making -/
structure Made (X : Cx) (pins : List (Addr × Obj)) (σ : L2.St) (H : Hp) (μ : Mu) (S : List Cell) (params : Arguments) (body : Expr) (scope : Scope) (f c' : Addr) (pm ctv : Value) (H1 : Hp) (s' : Shared) : Prop where
  inv : Inv X pins σ H1 s'
  up : Up μ H μ H1
  sto : StoRep X.mg X.K μ S H1
  obj : s'.heap.get? f = some (PySem.W.kla_obj "<lambda>" (lq X) params body scope (cloFrom X.env.cells scope.names []) pm c' ctv)
  off : H1 f = none
  fr : f ∉ frs X.stack
  code : H1 c' = some (LamX.CodeO c' (lq X))
theorem stk_off (I : Inv X pins σ H s) {f : Addr} (hf : s.heap.objs.size ≤ f) : f ∉ frs X.stack := fun z => by
  rcases List.mem_cons.mp (I.stkSub _ z) with e | e
  · have h1 := I.lt
    rw [← e] at h1
    exact Nat.lt_irrefl _ (Nat.lt_of_lt_of_le h1 hf)
  · exact I.nofs hf e
theorem lam_mk {c P : Addr} {j : Nat} {params : Arguments} {body : Expr} {scope : Scope} {ps : List Str} {pos : Pos} {E : Value → Shared → Prop} {Q : Value → Shared → Prop} (I : Inv X pins σ H s) (hs : StoRep X.mg X.K μ S H) (TB : LamX.TabB X.base X.mg c P)
    (hcode : X.env.code = .ref c) (hj : S[j]? = some (.tab P (lq X))) (hdef : defaultsOf params X.env = ([], [])) (L : LamP X.N X.env.scope scope ps)
    (h : ∀ f c' pm ctv H1 s', Made X pins σ H μ S params body scope f c' pm ctv H1 s' → Q (.ref f) s') :
    wpAny (model X.prog X.w) X.A (eval (.Lambda params body scope pos) X.env) Q E s := by
  have hl : j < μ.length := by rw [hs.len]; exact (List.getElem?_eq_some_iff.mp hj).1
  have hmu : μ[j]? = some μ[j] := List.getElem?_eq_getElem hl
  obtain ⟨eP, tb, hP, tok, cods⟩ := hs.at_ j _ _ hj hmu
  rw [eP] at hmu
  have hPm : P ∈ μ := List.mem_of_getElem? hmu
  have hfree : ∀ y ∈ scope.names, y.2 = .free → ∃ c, X.env.cells.lookup y.1 = some c := fun y hy e => by
    rcases L.free y hy e with k | k
    · exact I.ok.has _ (.inl k)
    · exact I.ok.has _ (.inr k)
  have bP : s.heap.BuiltinsAt X.mg P := TB.bm.keeps I.bk
  have gP : s.heap.get? P = some { cls := .none, data := .fields tb } := I.hok P _ hP
  refine PySem.W.kla_eval hdef ?_
  cases hc : codeAmong pos tb.toList with
  | some cv =>
    obtain ⟨c', rfl, hco⟩ := cods pos cv hc
    refine PySem.W.kla_makeFunctionHit (P := P) (ps := tb) (mg := X.mg) (c := c) (closure_ok hfree) I.ok.glob
      (I.mod.glob.keeps I.bk) hcode
      (TB.code.keeps I.bk) gP tok hc bP fun ctv h' tk hx hsz => ?_
    exact h h'.objs.size c' ((X.mg "__name__").getD .none) ctv H _
      { inv := I.kept fun b o e => Heap.get?_push_of_some _ (hx b o e)
        up := .refl
        sto := hs
        obj := Heap.get?_push_size _ rfl
        off := I.hok.fresh hsz
        fr := stk_off I hsz
        code := hco }
  | none =>
    refine PySem.W.kla_makeFunction (P := P) (ps := tb) (mg := X.mg) (c := c) (closure_ok hfree) I.ok.glob
      (I.mod.glob.keeps I.bk) hcode
      (TB.code.keeps I.bk) gP tok hc TB.gP bP fun c' ctv h' tk hx hge hlt hrec htb => ?_
    obtain ⟨c2, oc, vs, t, e2, hoc, hd, hv⟩ := hrec
    cases e2
    have hsz : s.heap.objs.size ≤ h'.objs.size := Nat.le_trans hge (Nat.le_of_lt hlt)
    have nC : H c' = none := I.hok.fresh hge
    have nPc : P ≠ c' := ne_of_none hP nC
    have J := LamX.inv_table (q := lq X) (t' := tk) (more := #[rawInt pos.line, rawInt pos.col, .ref c']) (h' := h'.push (PySem.W.kla_obj "<lambda>" (lq X) params body scope (cloFrom X.env.cells scope.names []) ((X.mg "__name__").getD .none) c' ctv)) I hP
      (fun b o hb e => Heap.get?_push_of_some _ (hx b o hb e)) (Heap.get?_push_of_some _ htb)
      hge ⟨oc, vs, t, Heap.get?_push_of_some _ hoc, hd, hv⟩
    have m1 : ∀ xs, H P ≠ some (.tup xs) := fun xs q => by rw [hP] at q; cases q
    have m2 : ∀ o u, H P ≠ some (.frz o u) := fun o u q => by rw [hP] at q; cases q
    have m3 : ∀ o, H P ≠ some (.ext o) := fun o q => by rw [hP] at q; cases q
    have u1 : Up μ H μ (upd H P (.tbl (tb ++ #[rawInt pos.line, rawInt pos.col, .ref c']))) := up_mut hPm m1 m2 m3
    have nC1 : upd H P (.tbl (tb ++ #[rawInt pos.line, rawInt pos.col, .ref c'])) c' = none := by rw [upd_ne (Ne.symm nPc)]; exact nC
    have u2 : Up μ H μ (upd (upd H P (.tbl (tb ++ #[rawInt pos.line, rawInt pos.col, .ref c']))) c' (LamX.CodeO c' (lq X))) := u1.trans (up_tmp nC1)
    have eL : (tb ++ #[rawInt pos.line, rawInt pos.col, .ref c']).toList = tb.toList ++ [rawInt pos.line, rawInt pos.col, .ref c'] := by simp
    have st : StoRep X.mg X.K μ S (upd (upd H P (.tbl (tb ++ #[rawInt pos.line, rawInt pos.col, .ref c']))) c' (LamX.CodeO c' (lq X))) := by
      refine ⟨hs.nd, hs.len, fun n cl a e1 e2 => ?_⟩
      have old := hs.at_ n cl a e1 e2
      by_cases ha : a = P
      · subst ha
        have hn : n = j := by
          obtain ⟨l1, g1⟩ := List.getElem?_eq_some_iff.mp e2
          obtain ⟨l2, g2⟩ := List.getElem?_eq_some_iff.mp hmu
          exact (List.getElem_inj hs.nd).mp (g1.trans g2.symm)
        subst hn
        rw [hj] at e1
        cases e1
        refine ⟨rfl, _, by rw [upd_ne nPc, upd_same], by rw [eL]; exact PySem.TriplesOk_snoc _ _ _ _ tok, fun p' cv hcv => ?_⟩
        rw [eL] at hcv
        rcases LamX.among_app _ tok hcv with z | z
        · obtain ⟨c0, e3, e4⟩ := cods p' cv z
          exact ⟨c0, e3, u2.ext _ _ e4⟩
        · exact ⟨c', z, upd_same⟩
      · have hac : a ≠ c' := fun z => by
          obtain ⟨o, eo⟩ := old.some
          rw [z, nC] at eo
          cases eo
        exact old.keep u2.toUpR (by rw [upd_ne hac, upd_ne ha])
    refine h h'.objs.size c' ((X.mg "__name__").getD .none) ctv _ _
      { inv := J
        up := u2
        sto := st
        obj := Heap.get?_push_size _ rfl
        off := ?_
        fr := stk_off I hsz
        code := upd_same }
    have n1 : h'.objs.size ≠ c' := Nat.ne_of_gt hlt
    have n2 : h'.objs.size ≠ P := Nat.ne_of_gt (Nat.lt_of_lt_of_le (Heap.lt_size gP) hsz)
    rw [upd_ne n1, upd_ne n2]
    exact I.hok.fresh hsz
end
/-! ### it is called, in the def that got it -/
mutual
def plainD : D → Bool
  | .non => true
  | .bl _ => true
  | .int _ => true
  | .str _ => true
  | .tup l => plainL l
  | .cst l => plainL l
  | _ => false
def plainL : List D → Bool
  | [] => true
  | d :: l => plainD d && plainL l
end
/-- what a lambda may have caught -/
def capt (sd : Sl) : Sl := sd.map fun x => x.bind fun d => if plainD d = true then some d else none
section
variable {K : PySem.W.Frag} {μ μ' : Mu} {H H' : Hp}
mutual
theorem RepV.plain (ht : ∀ b xs, H b = some (.tup xs) → H' b = some (.tup xs)) (hf : ∀ b o u, H b = some (.frz o u) → H' b = some (.frz o u)) : ∀ {d : D} {v : V}, RepV K μ H d v → plainD d = true → RepV K μ' H' d v
  | _, _, .non, _ => .non
  | _, _, .bl b, _ => .bl b
  | _, _, .int i, _ => .int i
  | _, _, .str x, _ => .str x
  | _, _, .tup h r, e => .tup (by
      rcases h with (h | ⟨o, h⟩) | h
      · exact .inl (.inl (ht _ _ h))
      · exact .inl (.inr ⟨o, hf _ _ _ h⟩)
      · exact .inr h) (RepL.plain ht hf r (by unfold plainD at e; exact e))
  | _, _, .cst h r, e => .cst (by
      rcases h with ⟨o, h⟩ | h
      · exact .inl ⟨o, hf _ _ _ h⟩
      · exact .inr h) (RepL.plain ht hf r (by unfold plainD at e; exact e))
  | _, _, .loc h, e => by unfold plainD at e; cases e
  | _, _, .adr a, e => by unfold plainD at e; cases e
  | _, _, .lam h, e => by unfold plainD at e; cases e
theorem RepL.plain (ht : ∀ b xs, H b = some (.tup xs) → H' b = some (.tup xs)) (hf : ∀ b o u, H b = some (.frz o u) → H' b = some (.frz o u)) : ∀ {ds : List D} {vs : List V}, RepL K μ H ds vs → plainL ds = true → RepL K μ' H' ds vs
  | _, _, .nil, _ => .nil
  | _, _, .cons h r, e => by
    unfold plainL at e
    rw [Bool.and_eq_true] at e
    exact .cons (RepV.plain ht hf h e.1) (RepL.plain ht hf r e.2)
end
theorem capt_rep {sd : Sl} {σ : L2.St} (ht : ∀ b xs, H b = some (.tup xs) → H' b = some (.tup xs)) (hf : ∀ b o u, H b = some (.frz o u) → H' b = some (.frz o u)) (hl : SlRep K μ H sd σ) {ds : List D} {vs : List V} (r : RepL K μ' H' ds vs) : SlRep K μ' H' (capt sd ++ ds.map some) (σ ++ vs.map some) := by
  have hn : (capt sd).length = σ.length := by unfold capt; rw [List.length_map]; exact hl.len
  refine ⟨by simp [hn, r.length], fun i d e => ?_⟩
  by_cases hi : i < σ.length
  · rw [List.getElem?_append_left (by omega)] at e
    unfold capt at e
    rw [List.getElem?_map] at e
    obtain ⟨x, e1, e2⟩ := Option.map_eq_some_iff.mp e
    obtain ⟨d', rfl, e3⟩ := Option.bind_eq_some_iff.mp e2
    split at e3
    · rename_i hp
      cases e3
      obtain ⟨v, g1, g2⟩ := hl.at_ i d e1
      exact ⟨v, by rw [List.getElem?_append_left hi]; exact g1, g2.plain ht hf hp⟩
    · cases e3
  · rw [List.getElem?_append_right (by omega)] at e
    obtain ⟨v, g1, g2⟩ := r.map _ d e
    exact ⟨v, by rw [List.getElem?_append_right (by omega)]; rwa [hn] at g1, g2⟩
end
def mLam (i : Nat) (f c' : Addr) (q : Str) (lm : List D → List Cell → Res D) (a : MA) : ME := fun sd S => match sd[i]? with
  | some (some (.lam f' d q')) => if f' = f ∧ d = c' ∧ q' = q then (a sd S).bind lm else .stk
  | _ => .stk
section
variable {X : Cx} {pins : List (Addr × Obj)} {σ : L2.St} {H : Hp} {s : Shared} {μ : Mu} {S : List Cell} {sd : Sl}
theorem lam_act {CXg : CXT} {Eg : XK} {Ng ps : List Str} {qg : Str} {sg : Scope} {g f c' : Addr} {cdg pm ctv : Value} {params : Arguments} {body : Expr} {scope : Scope} {k i : Nat} {a : Str} {W : WX} {eb : ME} {ma : MA} {e : Expr} {es : List Expr} {p1 p2 : Pos}
    (I : Inv X pins σ H s) (hl : SlRep X.K μ H sd σ) (L : LamP X.N X.env.scope scope ps) (hf : s.heap.get? f = some (PySem.W.kla_obj "<lambda>" (lq X) params body scope (cloFrom X.env.cells scope.names []) pm c' ctv)) (hfn : H f = none) (hfr : f ∉ frs X.stack)
    (hbind : ∀ us : List Value, us.length = ps.length → bindArgs (PySem.W.kla_fn "<lambda>" (lq X) params body scope (cloFrom X.env.cells scope.names []) pm (.ref c') ctv) ⟨us, []⟩ = pure (ps.zip us))
    (hr : Room (k + 1) (X.A.deeper (envOfC qg sg s.heap.objs.size g cdg)))
    (hbody : ∀ (A : Around) (outer : List Env) (s : Shared) (H : Hp) (E : XK), Takes (lamCxP X A outer s H E scope f c' ps) (fun cls d _ H => E cls d H) → Room k (A.deeper (LamX.lamEnv X scope s.heap.objs.size f c')) → SE (lamCxP X A outer s H E scope f c' ps) (fun cls d _ H => E cls d H) body eb)
    (tk : Takes (cxOf CXg X.prog X.w X.K X.mg X.base Ng qg sg g cdg X.A X.stack s H Eg) W) (ha : SA (cxOf CXg X.prog X.w X.K X.mg X.base Ng qg sg g cdg X.A X.stack s H Eg) W (e :: es) ma) (hn : ∀ sd S ds S', ma sd S = .ok ds S' → ds.length = ps.length)
    (hN : Ng[i]? = some a) (hv : Vis sg a) (hd : (a == ("__debug__" : Str)) = false := by decide) (hcd : (a == ("__classdict__" : Str)) = false := by decide)
    (he : starEach (e :: es) (cxOf CXg X.prog X.w X.K X.mg X.base Ng qg sg g cdg X.A X.stack s H Eg).env = (false, eval e (cxOf CXg X.prog X.w X.K X.mg X.base Ng qg sg g cdg X.A X.stack s H Eg).env) :: starEach es (cxOf CXg X.prog X.w X.K X.mg X.base Ng qg sg g cdg X.A X.stack s H Eg).env := by rfl)
    (hpl : (backTo p2 (starEach es (cxOf CXg X.prog X.w X.K X.mg X.base Ng qg sg g cdg X.A X.stack s H Eg).env)).any (·.1) = false := by rfl) :
    SE (cxOf CXg X.prog X.w X.K X.mg X.base Ng qg sg g cdg X.A X.stack s H Eg) W (.Call (.Name a p1) (e :: es) [] p2) (mLam i f c' (lq X) (fun ds S' => eb (capt sd ++ ds.map some) S') ma) := by
  refine ⟨fun pinsZ sZ σZ HZ Q IZ ⟨μZ, SZ, sdZ, hsZ, hlZ, h⟩ => ?_⟩
  unfold mLam at h
  split at h
  · rename_i f' d' q' ei
    split at h
    · rename_i hfd
      obtain ⟨rfl, rfl, rfl⟩ := hfd
      obtain ⟨v, ev, rvv⟩ := hlZ.at_ i _ ei
      cases rvv with
      | lam hcode =>
        refine wpAny_Call_Name_kw (thn ((pe_var (pos := p1) (i := i) hN hv hd hcd).run pinsZ sZ σZ HZ (fun v H1 => v = .ref f' ∧ H1 = HZ) IZ ⟨.ref f', ev, rfl, rfl⟩) fun u s1 ⟨v, H1, I1, r1, q1⟩ => ?_)
        obtain ⟨rfl, rfl⟩ := q1
        obtain rfl : u = Value.ref f' := r1
        have keepF : ∀ {pinsQ σQ HQ sQ}, Inv (cxOf CXg X.prog X.w X.K X.mg X.base Ng qg sg g cdg X.A X.stack s H Eg) pinsQ σQ HQ sQ → sQ.heap.get? f' = some (PySem.W.kla_obj "<lambda>" (lq X) params body scope (cloFrom X.env.cells scope.names []) pm d' ctv) :=
          fun J => J.base.keep f' _ hf hfn hfr (fun z => (by cases (show f' ∈ ([] : List Addr) from z)))
        have ht : tA (cxOf CXg X.prog X.w X.K X.mg X.base Ng qg sg g cdg X.A X.stack s H Eg) W ma σZ H1 fun vs H2 => vs.length = ps.length ∧ ∃ μ2 S2 ds, StoRep X.mg X.K μ2 S2 H2 ∧ RepL X.K μ2 H2 ds vs ∧ H2 d' = some (LamX.CodeO d' (lq X)) ∧ FinA X.mg X.K (RepV X.K) (fun c d H' => W c d σZ H') μ2 H2 (eb (capt sd ++ ds.map some) S2) Q := by
          refine ⟨μZ, SZ, sdZ, hsZ, hlZ, ?_⟩
          have h' := FinA.bind (Rep := RepL X.K) h
          generalize hrr : ma sdZ SZ = r at h h'
          cases r with
          | stk => exact h'
          | exc x S' => exact h'
          | ok ds S' => exact fun vs H2 μ2 u2 s2 r2 => ⟨by rw [← r2.length]; exact hn _ _ _ _ hrr, μ2, S', ds, s2, r2, u2.ext _ _ hcode, h' vs H2 μ2 u2 s2 r2⟩
        refine PySem.W.callWith_F ⟨_, _, _, _, keepF I1⟩ (thn (ha.run p2 pinsZ s1 σZ H1 _ I1 ht) fun us s2 ⟨vs, H2, I2, rv, lv, μ2, S2, ds, st2, rl, hc2, q⟩ => ⟨⟨_, _, _, _, keepF I2⟩, ?_⟩) he hpl
        have of2 := keepF I2
        have un : Un (frs X.stack) [] H H2 s.heap s2.heap := I2.base
        obtain ⟨⟨oc, vs', t, hoc, hdc, hvc⟩, _, _⟩ := I2.hok d' _ hc2
        have lu : us.length = ps.length := by rw [← rv.length]; exact lv
        have rc : codeAny (model X.prog X.w) (X.A.deeper (envOfC qg sg s.heap.objs.size g cdg)) (.call (.ref f') ⟨us, []⟩) (CR (L2.CX X.prog X.w) (envOfC qg sg s.heap.objs.size g cdg :: X.stack) X.prog X.w H2 s2 Q (fun c d H' => W c d σZ H')) s2 := by
          refine PySem.W.kla_callFunE hr.depth of2 rfl L.co L.gen rfl ⟨d', oc, vs', t, rfl, hoc, hdc, hvc⟩ ?_
          rw [hbind us lu]
          refine wpAny_pure (wpAny_newFunctionEnv (fun y hy => (L.own y hy).1) (fun y hy => L.par _ (List.of_mem_zip hy).1) (fun h₁ hns hsb => ⟨I2.nolimit.fresh _ hsb, ?_⟩) L.kind)
          show codeAny _ _ (.expr body (LamX.lamEnv X scope s2.heap.objs.size f' d')) _ _
          have kp : ∀ b o, s2.heap.get? b = some o → h₁.get? b = some o := fun b o e => hsb.extBut b o (Nat.ne_of_lt (Heap.lt_size e)) (Heap.get?_push_of_some _ e)
          have J := lam_inv (E := fun c d H' => W c d σZ H') (f := f') (c' := d') (tk := s2.toks + (ps.zip us).length) I L I2.env0 hr.hd un rv lv hns kp
          have slr : SlRep X.K μ2 H2 (capt sd ++ ds.map some) (σ ++ vs.map some) := capt_rep un.tups un.frzs hl rl
          have tb : tE (lamCxP X (X.A.deeper (envOfC qg sg s.heap.objs.size g cdg)) (envOfC qg sg s.heap.objs.size g cdg :: X.stack) s2 H2 (fun c d H' => W c d σZ H') scope f' d' ps) (fun cls d _ H' => W cls d σZ H') eb (σ ++ vs.map some) H2 Q := ⟨μ2, S2, _, st2, slr, q⟩
          refine PySem.W.kla_codeExpr (wpAny_mono ((hbody _ _ s2 H2 (fun c d H' => W c d σZ H') (takes_of rfl rfl rfl rfl) (hr.deeper _)).run [] _ _ H2 Q J tb) (fun v s' hq => ?_) fun e s' hq => hq)
          obtain ⟨w', H', J', rv', q⟩ := hq
          exact ⟨w', H', J'.os, J'.bare, J'.base, J'.hok, rv', q⟩
        refine wpAny_call (codeAny_mono rc fun r s' hq => ?_)
        match r with
        | .error e => exact passAt tk σZ pinsZ H2 s2 e s' I2 hq
        | .ok (.ret u) => exact I2.after hq
        | .ok .next => exact hq.elim
        | .ok .brk => exact hq.elim
        | .ok .cont => exact hq.elim
    · exact h.elim
  · exact h.elim
end
end Fx

namespace Fx
open PySem PySem.Spec PyProof.Rows L2
/-! ### x(e1, e2, lambda ..: ..), x a def of the module -/
theorem ref_fin {mg : Str → Option Value} {K : PySem.W.Frag} {E : XK} {μ : Mu} {H : Hp} {S0 : List Cell} {r : Res D} {b : ResS} {Q : VK} (hs : StoRep mg K μ S0 H) (hR : RefR S0 r b) (hF : FinA mg K (RepV K) E μ H r Q) :
    FinS mg K (fun cls d _ H' => E cls d H') μ H b { nx := fun _ H' => Q .non H', rt := Q } := by
  have hlen := hs.len
  match r, hR, hF with
  | .stk, _, hF => exact hF.elim
  | .ok d S1, ⟨c1, c2, c3, junk, hb⟩, hF =>
    have hc : ∀ c ∈ S1, c.bel S1.length := fun c hm => (c3 c hm).elim (hs.cells c1 c) id
    rcases hb with rfl | ⟨rfl, sd', rfl⟩
    · exact fun v H' μ' u s r => hF v H' (μ'.take S1.length) (u.cut (by omega)) (s.cut hc) (r.cut c2)
    · exact fun σ' H' μ' u s l => hF .non H' (μ'.take S1.length) (u.cut (by omega)) (s.cut hc) .non
  | .exc x S1, ⟨c1, c2, c3, junk, sd', hb⟩, hF =>
    subst hb
    have hc : ∀ c ∈ S1, c.bel S1.length := fun c hm => (c3 c hm).elim (hs.cells c1 c) id
    exact fun cls dx σ' H' μ' u s l ⟨C, dd, fs, e1, e2, e3, e4, e5, e6⟩ => hF cls dx H' (μ'.take S1.length) (u.cut (by omega)) (s.cut hc) ⟨C, dd, fs, e1, e2, e3, e4, e5, e6.cut c2⟩
/-- the callee's rule: f, made of the lambda lm, is called by the name in its i-th slot -/
def Acts (Z : Cx) (i n : Nat) (a : Str) (f c' : Addr) (q : Str) (lm : List D → List Cell → Res D) : Prop := ∀ (W : WX) (e : Expr) (es : List Expr) (ma : MA) (p1 p2 : Pos), Takes Z W → SA Z W (e :: es) ma → (∀ sd S ds S', ma sd S = .ok ds S' → ds.length = n) →
  starEach (e :: es) Z.env = (false, eval e Z.env) :: starEach es Z.env → (backTo p2 (starEach es Z.env)).any (·.1) = false → SE Z W (.Call (.Name a p1) (e :: es) [] p2) (mLam i f c' q lm ma)
def mLam2 (P : Addr) (q : Str) (j : Nat) (mgf : (List D → List Cell → Res D) → List D → List Cell → Res D) (eb m1 m2 : ME) : ME := fun sd S => (m1 sd S).bind fun d1 S1 => (m2 sd S1).bind fun d2 S2 => match S2[j]? with
  | some (.tab P' q') => if P' = P ∧ q' = q then mgf (fun ds S' => eb (capt sd ++ ds.map some) S') [d1, d2] S2 else .stk
  | _ => .stk
section
variable {X : Cx} {W : WX}
theorem se_lam2 {g a p0 p1 : Str} {st : Stmt} {Ng ps : List Str} {k j : Nat} {c P : Addr} {params : Arguments} {body : Expr} {scope : Scope} {e1 e2 : Expr} {m1 m2 eb : ME} {mgf : (List D → List Cell → Res D) → List D → List Cell → Res D} {bg : Addr → Addr → Str → (List D → List Cell → Res D) → MS} {p lpos pos : Pos}
    (F : IsFn X.K X.mg g st [p0, p1, a]) (Sg : FnScope Ng [p0, p1, a] (defScope st)) (hNg : Ng[2]? = some a) (hva : Vis (defScope st) a)
    (hW : ∀ (f c' : Addr) (q : Str) (lm : List D → List Cell → Res D) (fa : Addr) (cdv : Value) (A : Around) (outer : List Env) (s : Shared) (H : Hp) (E : XK), Takes (bodyX X.prog X.w X.K X.mg X.base Ng g st fa cdv A outer s H E) (fun cls d _ H' => E cls d H') →
      PassesOwn (model X.prog X.w) (bodyX X.prog X.w X.K X.mg X.base Ng g st fa cdv A outer s H E).A (bodyX X.prog X.w X.K X.mg X.base Ng g st fa cdv A outer s H E).env (bodyX X.prog X.w X.K X.mg X.base Ng g st fa cdv A outer s H E).xe →
      Room (k + 1) (bodyX X.prog X.w X.K X.mg X.base Ng g st fa cdv A outer s H E).A → Acts (bodyX X.prog X.w X.K X.mg X.base Ng g st fa cdv A outer s H E) 2 ps.length a f c' q lm →
      SB (bodyX X.prog X.w X.K X.mg X.base Ng g st fa cdv A outer s H E) (fun cls d _ H' => E cls d H') (defBody st) (bg f c' q lm))
    (hm : ∀ f c' q lm ds S, ds.length = 2 → RefR S (mgf lm ds S) (bg f c' q lm (startD Ng.length (ds ++ [.lam f c' q])) S))
    (TB : LamX.TabB X.base X.mg c P) (hcode : X.env.code = .ref c) (hr : Room (k + 2) X.A) (tk : Takes X W) (L : LamP X.N X.env.scope scope ps) (hdef : defaultsOf params X.env = ([], []))
    (hbind : ∀ (q : Str) (cl : List (Str × Addr)) (pm cv ctv : Value) (us : List Value), us.length = ps.length → bindArgs (PySem.W.kla_fn "<lambda>" q params body scope cl pm cv ctv) ⟨us, []⟩ = pure (ps.zip us))
    (hbody : ∀ (f c' : Addr) (A : Around) (outer : List Env) (s : Shared) (H : Hp) (E : XK), Takes (lamCxP X A outer s H E scope f c' ps) (fun cls d _ H => E cls d H) → Room k (A.deeper (LamX.lamEnv X scope s.heap.objs.size f c')) → SE (lamCxP X A outer s H E scope f c' ps) (fun cls d _ H => E cls d H) body eb)
    (h1 : SE X W e1 m1) (h2 : SE X W e2 m2)
    (hg : Gl X g := by rfl) (hdb : (g == ("__debug__" : Str)) = false := by decide) (had : (a == ("__debug__" : Str)) = false := by decide) (hac : (a == ("__classdict__" : Str)) = false := by decide)
    (q1 : starEach [e1, e2, .Lambda params body scope lpos] X.env = (false, eval e1 X.env) :: starEach [e2, .Lambda params body scope lpos] X.env := by rfl)
    (q2 : starEach [e2, .Lambda params body scope lpos] X.env = (false, eval e2 X.env) :: starEach [.Lambda params body scope lpos] X.env := by rfl)
    (q3 : (backTo pos (starEach [e2, .Lambda params body scope lpos] X.env)).any (·.1) = false := by rfl) :
    SE X W (.Call (.Name g p) [e1, e2, .Lambda params body scope lpos] [] pos) (mLam2 P (lq X) j mgf eb m1 m2) := by
  refine ⟨fun pins s σ H Q I ⟨μ, S, sd, hs, hl, h⟩ => ?_⟩
  obtain ⟨fa, fd, hmg, Fg, hb⟩ := F
  obtain ⟨oc, od, kV, doc, pmg, an, cdv, ct, osl, rfl, lk, hcd⟩ := Fg.ex
  refine wpAny_Call_Name_kw (ld_glob I hg hmg ?_ hdb)
  refine PySem.W.callWith_K (h₀ := X.base) I.ok.mod.kin Fg.kp ?_ q1 q3
  rw [q1]
  show wpAny _ _ (spliced ((false, eval e1 X.env) :: backTo pos (starEach [e2, .Lambda params body scope lpos] X.env))) _ _ s
  refine Calls.spliced_cons (thn (h1.run pins s σ H (fun x1 H1 => ∃ μ1 S1 d1, StoRep X.mg X.K μ1 S1 H1 ∧ SlRep X.K μ1 H1 sd σ ∧ RepV X.K μ1 H1 d1 x1 ∧ FinA X.mg X.K (RepV X.K) (fun c d H' => W c d σ H') μ1 H1 ((m2 sd S1).bind fun d2 S2 => match S2[j]? with
      | some (.tab P' q') => if P' = P ∧ q' = lq X then mgf (fun ds S' => eb (capt sd ++ ds.map some) S') [d1, d2] S2 else .stk
      | _ => .stk) Q) I (tE_bind hs hl h fun d1 S1 μ1 x1 H1 z1 z2 z3 z4 z5 => ⟨μ1, S1, d1, z1, z2, z4, z5⟩)) fun v1 s1 ⟨x1, H1, I1, rv1, μ1, S1, d1, hs1, hl1, rp1, h'⟩ => ?_)
  rw [q2]
  show wpAny _ _ (spliced ((false, eval e2 X.env) :: backTo pos (starEach [.Lambda params body scope lpos] X.env))) _ _ s1
  refine Calls.spliced_cons (thn (h2.run pins s1 σ H1 (fun x2 H2 => ∃ μ2 S2 d2, StoRep X.mg X.K μ2 S2 H2 ∧ SlRep X.K μ2 H2 sd σ ∧ RepV X.K μ2 H2 d1 x1 ∧ RepV X.K μ2 H2 d2 x2 ∧ FinA X.mg X.K (RepV X.K) (fun c d H' => W c d σ H') μ2 H2 (match S2[j]? with
      | some (.tab P' q') => if P' = P ∧ q' = lq X then mgf (fun ds S' => eb (capt sd ++ ds.map some) S') [d1, d2] S2 else .stk
      | _ => .stk) Q) I1 (tE_bind hs1 hl1 h' fun d2 S2 μ2 x2 H2 z1 z2 z3 z4 z5 => ⟨μ2, S2, d2, z1, z2, rp1.up z3, z4, z5⟩)) fun v2 s2 ⟨x2, H2, I2, rv2, μ2, S2, d2, hs2, hl2, rp1', rp2, h''⟩ => ?_)
  show wpAny _ _ (spliced ((false, eval (.Lambda params body scope lpos) X.env) :: backTo pos (starEach [] X.env))) _ _ s2
  split at h''
  · rename_i P' q' hj
    split at h''
    · rename_i hpq
      obtain ⟨rfl, rfl⟩ := hpq
      refine Calls.spliced_cons (lam_mk I2 hs2 TB hcode hj hdef L fun f c' pm ctv H3 s3 M => ?_)
      refine Calls.spliced_nil ⟨M.inv.kIn, ?_⟩
      have hF := h''.up M.up
      generalize hlm : (fun (ds : List D) (S' : List Cell) => eb (capt sd ++ ds.map some) S') = lm at hF
      have rl : RepL X.K μ2 H3 [d1, d2, .lam f c' (lq X)] [x1, x2, .ref f] := .cons (rp1'.up M.up) (.cons (rp2.up M.up) (.cons (.lam M.code) .nil))
      have vals : Vals [x1, x2, V.ref f] [v1, v2, Value.ref f] := .cons rv1 (.cons rv2 (.cons rfl .nil))
      have b := hb s3 [v1, v2, .ref f] M.inv.kIn (by simp)
      rw [List.append_nil] at b
      have rc : codeAny (model X.prog X.w) X.A (.call (.ref fa) ⟨[v1, v2, .ref f], []⟩) (CR (L2.CX X.prog X.w) X.stack X.prog X.w H3 s3 Q (fun c d H' => W c d σ H')) s3 := by
        refine LamX.run_ofS (N := Ng) (ps := [p0, p1, a]) (us := [v1, v2, .ref f]) (vs := [x1, x2, .ref f]) lk hcd Sg hr M.inv.env0 b vals rfl fun hr' => ?_
        refine ⟨_, hW f c' (lq X) lm fa cdv X.A X.stack s3 H3 (fun c d H' => W c d σ H') (takes_of rfl rfl rfl rfl) (passes_of rfl) hr' (fun W' e es ma pp1 pp2 tkz sa hn he hpl => ?_), ?_⟩
        · have := lam_act (CXg := L2.CX X.prog X.w) (Eg := fun c d H' => W c d σ H') (Ng := Ng) (qg := g) (sg := defScope st) (g := fa) (cdg := cdv) (k := k) (i := 2) (a := a) (W := W') (eb := eb) (ma := ma) (p1 := pp1) (p2 := pp2) M.inv (hl2.up M.up) L M.obj M.off M.fr (fun us hu => hbind _ _ _ _ _ us hu) hr' (fun A outer s H E tk hr => hbody f c' A outer s H E tk hr) tkz sa hn hNg hva had hac he hpl
          rw [hlm] at this
          exact this
        · refine ⟨μ2, S2, startD Ng.length ([d1, d2] ++ [D.lam f c' (lq X)]), M.sto, slRep_start Ng (show RepL X.K μ2 H3 ([d1, d2] ++ [D.lam f c' (lq X)]) _ from rl), ?_⟩
          exact ref_fin M.sto (hm f c' (lq X) lm [d1, d2] S2 rfl) hF
      refine wpAny_call (codeAny_mono rc fun r s' hq => ?_)
      match r with
      | .error e => exact passAt tk σ pins H3 s3 e s' M.inv hq
      | .ok (.ret u) => exact M.inv.after hq
      | .ok .next => exact hq.elim
      | .ok .brk => exact hq.elim
      | .ok .cont => exact hq.elim
    · exact h''.elim
  · exact h''.elim
end
end Fx

namespace Fx
open PySem PySem.Spec PyProof.Rows L2
/-! ### function values that are defs of the module -/
/-- the def at fa: what it computes, at a level -/
def HeldM (P : Program) (w : World) (K : PySem.W.Frag) (mg : Str → Option Value) (base : Heap) (k : Nat) (fa : Addr) (n : Nat) (m : List D → List Cell → Res D) : Prop :=
  ∃ fd ps, PySem.W.keepIn K (.ref fa) = true ∧ Binds K fd ps [] ∧ FnOk P w K mg base (L2.CX P w) k fa fd ps (spM mg K n m)
theorem HeldM.mono {P : Program} {w : World} {K : PySem.W.Frag} {mg : Str → Option Value} {base : Heap} {j k : Nat} {fa : Addr} {n : Nat} {m : List D → List Cell → Res D} (F : HeldM P w K mg base j fa n m) (h : j ≤ k) : HeldM P w K mg base k fa n m := by
  obtain ⟨fd, ps, h1, h2, h3⟩ := F
  exact ⟨fd, ps, h1, h2, h3.mono h⟩
theorem FnM.held {P : Program} {w : World} {K : PySem.W.Frag} {mg : Str → Option Value} {base : Heap} {k : Nat} {x : Str} {n : Nat} {m : List D → List Cell → Res D} (F : FnM P w K mg base k x n m) {fa : Addr} (h : mg x = some (.ref fa)) : HeldM P w K mg base k fa n m := by
  obtain ⟨f, fd, ps, h1, h2, h3, h4⟩ := F
  rw [h] at h1
  cases h1
  exact ⟨fd, ps, h2, h3, h4⟩
def mAdr (i : Nat) (fa : Addr) (m : List D → List Cell → Res D) (a : MA) : ME := fun sd S => match sd[i]? with
  | some (some (.adr f)) => if f = fa then (a sd S).bind m else .stk
  | _ => .stk
section
variable {X : Cx} {W : WX}
/-- a def's name as a value -/
theorem se_globA {x : Str} {fa : Addr} {p : Pos} (h : X.mg x = some (.ref fa)) (hg : Gl X x := by rfl) (hd : (x == ("__debug__" : Str)) = false := by decide) : SE X W (.Name x p) (mC (.adr fa)) :=
  se_glob hg h (v := .ref fa) rfl (fun _ _ => .adr fa) hd
/-- x(e, ..), x a name that holds a def -/
theorem se_adr {k n i : Nat} {fa : Addr} {x : Str} {m : List D → List Cell → Res D} {e : Expr} {es : List Expr} {ma : MA} {p pos : Pos} (F : HeldM X.prog X.w X.K X.mg X.base k fa n m) (hr : Room k X.A) (tk : Takes X W) (ha : SA X W (e :: es) ma) (hn : ∀ sd S ds S', ma sd S = .ok ds S' → ds.length = n)
    (hN : X.N[i]? = some x := by rfl) (hv : Vis X.env.scope x := by first | exact Or.inl rfl | exact Or.inr (Or.inl rfl) | exact Or.inr (Or.inr rfl)) (hd : (x == ("__debug__" : Str)) = false := by decide) (hcd : (x == ("__classdict__" : Str)) = false := by decide)
    (he : starEach (e :: es) X.env = (false, eval e X.env) :: starEach es X.env := by rfl) (hpl : (backTo pos (starEach es X.env)).any (·.1) = false := by rfl) :
    SE X W (.Call (.Name x p) (e :: es) [] pos) (mAdr i fa m ma) := by
  obtain ⟨fd, ps, h2, h3, h4⟩ := F
  refine ⟨fun pins s σ H Q I ⟨μ, S, sd, hs, hl, h⟩ => ?_⟩
  unfold mAdr at h
  split at h
  · rename_i f ei
    split at h
    · rename_i hf
      subst hf
      obtain ⟨v, ev, rv⟩ := hl.at_ i _ ei
      cases rv
      refine wpAny_Call_Name_kw (thn ((pe_var (pos := p) (i := i) hN hv hd hcd).run pins s σ H (fun v H1 => v = .ref f ∧ H1 = H) I ⟨.ref f, ev, rfl, rfl⟩) fun u s1 ⟨v, H1, I1, r1, q1⟩ => ?_)
      obtain ⟨rfl, rfl⟩ := q1
      obtain rfl : u = Value.ref f := r1
      have ht : tA X W ma σ H1 fun vs H2 => spM X.mg X.K n m vs H2 Q (WE W σ) := by
        refine ⟨μ, S, sd, hs, hl, ?_⟩
        have h' := FinA.bind (Rep := RepL X.K) h
        generalize hrr : ma sd S = r at h h'
        cases r with
        | stk => exact h'
        | exc x S' => exact h'
        | ok ds S' => exact fun vs H2 μ2 u2 s2 r2 => ⟨by rw [← r2.length]; exact hn _ _ _ _ hrr, μ2, S', ds, s2, r2, h' vs H2 μ2 u2 s2 r2⟩
      refine PySem.W.callWith_K (h₀ := X.base) I1.ok.mod.kin h2 (thn (ha.run pos pins s1 σ H1 _ I1 ht) fun us s2 ⟨vs, H2, I2, r, q⟩ => ⟨I2.kIn, ?_⟩) he hpl
      exact run_fnS (E := WE W) h4 hr h3 (passAt tk σ) I2 r q
    · exact h.elim
  · exact h.elim
/-! ### tuples of texts of the module -/
def KTup (K : PySem.W.Frag) (mg : Str → Option Value) (x : Str) (xs : List (List Nat)) : Prop := ∃ a, mg x = some (.ref a) ∧ ∀ H, SqT K H a (xs.map fun y => V.str (stS y))
theorem se_globT {x : Str} {xs : List (List Nat)} {p : Pos} (T : KTup X.K X.mg x xs) (hg : Gl X x := by rfl) (hd : (x == ("__debug__" : Str)) = false := by decide) : SE X W (.Name x p) (mC (.tup (xs.map D.str))) := by
  obtain ⟨a, h1, h2⟩ := T
  refine se_glob hg h1 (v := .ref a) rfl (fun μ H => .tup (h2 H) ?_) hd
  have : ∀ ys : List (List Nat), RepL X.K μ H (ys.map D.str) (ys.map fun y => V.str (stS y)) := by
    intro ys
    induction ys with
    | nil => exact .nil
    | cons y ys ih => exact .cons (.str y) ih
  exact this xs
end
/-! ### a def by its code -/
section
variable {P : Program} {w : World} {K : PySem.W.Frag} {mg : Str → Option Value} {base : Heap}
theorem fnOk_q {x q : Str} {st : Stmt} {N ps : List Str} {k : Nat} {m : List D → List Cell → Res D} {mb : MS} {f : Addr} {fd : FuncData} (F : Fun K x q st f fd) (S : FnScope N ps (defScope st))
    (hb : ∀ (f : Addr) (cdv : Value) (A : Around) (outer : List Env) (s : Shared) (H : Hp) (E : XK), cdv = fd.code → Takes (bodyX P w K mg base N q st f cdv A outer s H E) (fun cls d _ H' => E cls d H') →
      PassesOwn (model P w) (bodyX P w K mg base N q st f cdv A outer s H E).A (bodyX P w K mg base N q st f cdv A outer s H E).env (bodyX P w K mg base N q st f cdv A outer s H E).xe → Room k (bodyX P w K mg base N q st f cdv A outer s H E).A →
      SB (bodyX P w K mg base N q st f cdv A outer s H E) (fun cls d _ H' => E cls d H') (defBody st) mb)
    (hm : ∀ ds S, ds.length = ps.length → RefR S (m ds S) (mb (startD N.length ds) S)) : FnOk P w K mg base (L2.CX P w) (k + 1) f fd ps (spM mg K ps.length m) := by
  obtain ⟨oc, od, kV, doc, pm, an, cdv, ct, osl, rfl, lk, hcd⟩ := F.ex
  refine fn_of lk hcd S (fun vs H Q E h => h.1) fun A outer s H vs Q E hr h => ?_
  obtain ⟨hlen, μ, S0, ds, hs, rl, hF⟩ := h
  refine ⟨_, hb f cdv A outer s H E rfl (takes_of rfl rfl rfl rfl) (passes_of rfl) hr, μ, S0, startD N.length ds, hs, slRep_start N rl, ?_⟩
  exact ref_fin hs (hm ds S0 (by rw [rl.length]; exact hlen)) hF
/-- a class of the module as it stands behind the top: its __init__ -/
structure IsCls (K : PySem.W.Frag) (mg : Str → Option Value) (c : String) (q : Str) (st : Stmt) (ps : List Str) (fl : List String) (C fI : Addr) (fd : FuncData) : Prop where
  at_ : mg (Str.ofString c) = some (.ref C)
  mak : Mk K C fI
  fn : Fun K "__init__" q st fI fd
  bd : Binds K fd ps []
  cls : Cls K C
  no : ∀ f ∈ fl, NoAttr K C (Str.ofString f)
theorem IsCls.fld {c : String} {q : Str} {st : Stmt} {ps : List Str} {fl : List String} {C fI : Addr} {fd : FuncData} (Z : IsCls K mg c q st ps fl C fI fd) {f : String} (hf : f ∈ fl) : ∀ c' ∈ [c], FldK mg K c' f := fun c' hc C' hC => by
  rw [List.mem_singleton] at hc
  subst hc
  rw [Z.at_] at hC
  cases hC
  exact ⟨Z.cls, Z.no f hf⟩
theorem IsCls.mkM {c : String} {q : Str} {st : Stmt} {ps : List Str} {fl : List String} {C fI : Addr} {fd : FuncData} (Z : IsCls K mg c q st ps fl C fI fd) {k n : Nat} {m : List D → List Cell → Res D} (h : FnOk P w K mg base (L2.CX P w) k fI fd ps (spM mg K (n + 1) m)) : MkM P w K mg base k c n m :=
  ⟨C, fI, fd, ps, Z.at_, Z.mak, Z.bd, h⟩
end
end Fx

namespace Fx
open PySem PySem.Spec PyProof.Rows L2
/-! ### isinstance(e, c), e a caught exception of an own class that has a dict -/
section
variable {prog : Program} {w : World} {A : Around} {Er : Value → Shared → Prop} {s : Shared} {K : PySem.W.Frag} {x D : Addr} {ox dobj : Obj}
theorem exc_cls {Q : Option Value → Shared → Prop} (c : ExcC K D) (Kin : K.In s.heap) (at_ : PySem.W.InstAt s.heap x ox D (some dobj)) (fin : Q (some (.ref D)) { s with toks := s.toks + 1 }) : wpAny (model prog w) A (getAttr? (.ref x) "__class__") Q Er s := by
  have hcls : (PySem.W.clsIn K D).isSome = true := by
    obtain ⟨cd, z, _⟩ := PySem.W.any_some c.hd
    rw [z]; rfl
  have fo : PySem.W.findObj K D (some dobj) "__class__" = some (.bind (.builtin "getset_descriptor.__get__") (.builtin "object.__class__")) :=
    PySem.W.findObj_data hcls c.ha c.hn c.ht
  obtain ⟨hp, gn, dr, tk, os⟩ := s
  have T0 := at_.type (M := model prog w)
  have T1 := PySem.W.looks_findIn (M := model prog w) Kin c.hg
  have T2 := PySem.W.looks_findIn (M := model prog w) Kin c.hk
  have T3 := PySem.W.looks_find (M := model prog w) Kin at_ fo
  have isE : PySem.W.Looks (model prog w) hp (isInstance (.ref x) (.type "BaseException")) true :=
    T0.andThen (PySem.W.looks_subIn Kin c.hs)
  have b0 : (false && onTheHeap (Value.builtin "BaseException.__getattribute__")) = false := rfl
  have b2 : (Value.builtin "BaseException.__getattribute__" == Value.builtin "object.__getattribute__") = false := by
    decide +kernel
  have b1 : (onTheHeap (Value.ref D) && Value.builtin "BaseException.__getattribute__" == Value.builtin "object.__getattribute__") = false := by
    rw [b2]; rfl
  unfold getAttr? getAttrBy? getAttrBy
  refine wpAny_bind (wpAny_mkText (wpAny_bind ?_))
  refine wpAny_attempt (wpAny_holding (wpAny_bind (T0.at (wpAny_bind (T1.at ?_)))))
  show wpAny _ _ (if (onTheHeap (Value.ref D) && Value.builtin "BaseException.__getattribute__" == Value.builtin "object.__getattribute__") = true
    then _ else _) _ _ _
  rw [b1, if_neg Bool.false_ne_true]
  unfold getAttrByItsOwn hookBefore
  refine wpAny_bind ?_
  rw [if_pos (show onTheHeap (Value.ref D) = true from rfl)]
  refine T2.at ?_
  refine wpAny_bind (wpAny_attempt (wpAny_holding ?_))
  unfold callGetattribute
  rw [b0, if_neg Bool.false_ne_true]
  unfold boundAndCalled
  rw [PySem.F.excAttr_ValueError.ga.bind (.ref x)]
  refine wpAny_bind (wpAny_pure ?_)
  show wpAny _ _ (call (.builtin "BaseException.__getattribute__") [.ref x, .str "__class__" tk])
    _ _ _
  refine wpAny_call (codeAny_call_builtin PySem.F.excAttr_ValueError.ga.plain
    PySem.F.entry_bexc_ga ?_)
  refine @PySem.W.check_slot (model prog w) _ _ ⟨hp, gn, dr, tk + 1, os⟩ "BaseException.__getattribute__" "BaseException" "__getattribute__" (.ref x)
    [.str "__class__" tk] [] _ (by decide +kernel) (by decide +kernel) isE
    (PySem.F.args_bexc_ga (.ref x) (.str "__class__" tk)) ?_
  unfold Builtin.«object.__getattribute__»
  refine wpAny_bind (wpAny_of_eq (a := ((Value.ref x : Value), [Value.str "__class__" tk]))
    (by first | rfl | (simp only [slotArgs]; rfl)) ?_)
  refine wpAny_bind (wpAny_pure (wpAny_bind (T0.at (wpAny_bind (T3.at ?_)))))
  show wpAny _ _ (holding [Value.builtin "object.__class__"] (call (.builtin "getset_descriptor.__get__") [.builtin "object.__class__", .ref x, .ref D])
    >>= ret) _ _ _
  refine wpAny_bind (wpAny_holding (wpAny_call (PySem.W.class_get (s := ⟨hp, gn, dr, tk + 1, os⟩) (ox := ox)
    (od := some dobj) Kin at_ c.hm ?_)))
  refine wpAny_pure ?_
  show wpAny _ _ (handedOut (.ref D)) _ _ _
  rw [PySem.W.handedOut_of (v := .ref D) rfl]
  first
    | exact wpAny_pure (wpAny_pure fin)
    | exact wpAny_pure fin
    | exact wpAny_pure (wpAny_bind (wpAny_pure (wpAny_pure fin)))
theorem exc_kit (c : ExcC K D) : PySem.W.KitX K (.ref x) (.ref D) (fun h => PySem.W.InstAt h x ox D (some dobj)) := by
  have own := @PySem.W.handS_kitx_exc K x D ox c.hg c.hk c.hs c.hd c.ha c.hn c.ht c.hm
  constructor
  · exact fun M h KI J => J.type
  · intro M h KI J
    obtain ⟨cdD, hcD, _⟩ := PySem.W.any_some c.hd
    unfold PySem.W.clsIn at hcD
    split at hcD
    · rename_i c' d' cd' sl' ho
      intro A' Q' E' s' k q
      unfold isType loadHead
      exact wpAny_bind (wpAny_loadPart (k _ _ (KI _ _ ho)) (wpAny_pure q))
    · cases hcD
  · exact own.ne
  · exact fun KI J q => exc_cls c KI J q
end
section
variable {X : Cx} {i : Nat} {a : Addr} {cls : Value} {d : Option Addr}
/-- if isinstance(e, c): return (..), in a clause -/
def ifIsX (cl : List String) (m : MH) : MH := fun x sd S => if x.cls ∈ cl then m x sd S else .stk
def IsOk (mg : Str → Option Value) (K : PySem.W.Frag) (cl : List String) (c : Value) : Prop := ∀ y ∈ cl, ∀ C, mg (Str.ofString y) = some (.ref C) → ExcC K C ∧ PySem.W.kitOne K (.ref C) c = some true
theorem call_isX {D : Addr} {oe : Obj} {pn : List (Addr × Obj)} {cv : String} (C : ExcC X.K D) (kt : PySem.W.kitOne X.K (.ref D) (.type cv) = some true) {dd : Addr} (hz : Zc (.ref D) (some dd) oe) (hf : ∃ vs, oe.data = .fields vs) :
    CallR (X.suite a ((a, oe) :: pn)) (.builtin "isinstance") (fun xs H Q => xs = [.ref a, .ty cv] ∧ (∃ fs, H dd = some (.xd fs)) ∧ Q (.bl true) H) := by
  intro pins s σ H xs us Q I r ⟨ex, ⟨fs, ea⟩, q⟩
  subst ex
  cases r with
  | cons rx rr =>
    cases rr with
    | cons rt rr =>
      cases rr
      cases rx
      cases rt
      obtain ⟨hget, _⟩ := I.pin (a, oe) (List.mem_append.mpr (.inl List.mem_cons_self))
      obtain ⟨vs, hv⟩ := hf
      have hx : ObjOk X.prog X.w H s.heap dd (.xd fs) := I.hok dd _ ea
      obtain ⟨mA, hns, _⟩ := hx
      obtain ⟨od, ho, _⟩ := lookIn_ns hns
      have J : PySem.W.InstAt s.heap a oe D (some od) := ⟨hget, hz.1, (by unfold PySem.W.notCls; rw [hv] <;> rfl), by rw [hz.2]; exact ho⟩
      exact PySem.W.kia_one (exc_kit C) I.kIn J kt (fun z => nomatch z) fun tk => ⟨.bl true, H, I.kept (t' := tk) fun _ _ z => z, rfl, q⟩
theorem hd_ifIs {oe : Obj} {pn : List (Addr × Obj)} {cl : List String} {n c : Str} {cv : String} {ss : List Stmt} {m : MH} {p1 p2 p3 p4 p5 : Pos} (Z : IsOk X.mg X.K cl (.type cv)) (hz : Zc cls d oe) (hf : ∃ vs, oe.data = .fields vs) (hb : X.mg "isinstance" = none) (hc : X.mg c = none)
    (h : PSs (X.suite a ((a, oe) :: pn)) ss (tHd X.mg X.K (some i) m a cls d)) (hcv : bootBuiltins c = some (.type cv) := by decide +kernel) (hN : X.N[i]? = some n := by rfl) (hv : Vis X.env.scope n := by first | exact Or.inl rfl | exact Or.inr (Or.inl rfl) | exact Or.inr (Or.inr rfl)) (hd : (n == ("__debug__" : Str)) = false := by decide)
    (hcd : (n == ("__classdict__" : Str)) = false := by decide) (hgi : Gl X "isinstance" := by rfl) (hgc : Gl X c := by rfl) (hdc : (c == ("__debug__" : Str)) = false := by decide) (hnm : c ≠ "__name__" := by decide) :
    PSs (X.suite a ((a, oe) :: pn)) [.If (.Call (.Name "isinstance" p1) [.Name n p2, .Name c p3] [] p4) ss [] p5] (tHd X.mg X.K (some i) (ifIsX cl m) a cls d) := by
  constructor
  intro pins s σ H D I ⟨x, μ, S, sd, st, sl, ex, hi, f⟩
  obtain ⟨C, dd, fs, e1, e2, e3, e4, e5, e6⟩ := ex
  unfold ifIsX at f
  split at f
  · rename_i hm
    obtain ⟨ec, kt⟩ := Z _ hm C e3
    subst e1 e2
    have pe : PE (X.suite a ((a, oe) :: pn)) (.Call (.Name "isinstance" p1) [.Name n p2, .Name c p3] [] p4) _ := pe_callB (call_isX (X := X) ec kt hz hf) hgi hb PyProof.Rows.boot_isinstance (pa_cons (pe_var (X := X.suite a ((a, oe) :: pn)) (i := i) hN hv hd hcd) (pa_cons (pe_bltn (v := .ty cv) hgc hc hcv rfl hnm hdc) pa_nil))
    refine (pss_one (ps_if (pt_truth pe (fun _ => rfl)) h pss_nil)).run pins s σ H D I ?_
    refine ⟨.ref a, hi i rfl, rfl, ⟨fs, e4⟩, true, ?_, ?_⟩
    · rfl
    · exact ⟨x, μ, S, sd, st, sl, ⟨C, dd, fs, rfl, rfl, e3, e4, e5, e6⟩, hi, f⟩
  · exact f.elim
end
end Fx

namespace Fx
open PySem PySem.Spec PyProof.Rows L2
def lamPB (N : List Str) (sc scope : Scope) (ps : List Str) : Bool :=
  decide (scope.kind = .function) && !scope.isCoroutine && !scope.isGenerator && (scope.names.all fun y => !decide (y.2 = .cell) && (!decide (y.2 = .local) || decide (y.1 ∈ ps)) && (!decide (y.2 = .free) || decide (sc.names.lookup y.1 = some .cell) || decide (sc.names.lookup y.1 = some .free))) &&
    (ps.all fun p => decide (scope.names.lookup p = some .local) && !decide (p ∈ N)) && decide ps.Nodup
theorem lamP_by {N : List Str} {sc scope : Scope} {ps : List Str} (h : lamPB N sc scope ps = true) : LamP N sc scope ps := by
  unfold lamPB at h
  simp only [Bool.and_eq_true, Bool.or_eq_true, Bool.not_eq_true', decide_eq_true_eq, decide_eq_false_iff_not, List.all_eq_true] at h
  obtain ⟨⟨⟨⟨⟨h1, h2⟩, h3⟩, h4⟩, h5⟩, h6⟩ := h
  refine ⟨h1, h2, h3, fun y hy => ⟨(h4 y hy).1.1, fun e => ?_⟩, fun p hp => (h5 p hp).1, fun y hy e => ?_, h6, fun p hp => (h5 p hp).2⟩
  · rcases (h4 y hy).1.2 with z | z
    · exact absurd e z
    · exact z
  · rcases (h4 y hy).2 with (z | z) | z
    · exact absurd e z
    · exact .inl z
    · exact .inr z
end Fx

namespace Fx
open PySem PySem.Spec PyProof.Rows L2
/-! ### what chiptrue's smaller functions answer: words, names, terms -/
abbrev ns_InvalidTerm : List (List Nat) := [cs "InvalidTerm", cs "ChiptrueError"]
abbrev ns_InvalidChip : List (List Nat) := [cs "InvalidChip", cs "ChiptrueError"]
abbrev ns_InvalidNet : List (List Nat) := [cs "InvalidNet", cs "ChiptrueError"]
def u_PAIRS : List (List Nat) := [cs "and", cs "or", cs "xor", cs "add", cs "sub", cs "eq", cs "less"]
def u_ONES : List (List Nat) := [cs "not", cs "all", cs "any", cs "odd"]
def u_KEPT : List (List Nat) := [cs "all", cs "any", cs "odd", cs "chip", cs "in", cs "reg", cs "next", cs "when", cs "wire", cs "out"]

mutual
def okv (S : List Cell) : D → Bool
  | .non => true
  | .bl _ => true
  | .int _ => true
  | .str x => okT x && decide (x.length ≤ 1000)
  | .tup l => decide (l.length ≤ 1000) && okvL S l
  | .loc n => (cellL S n).isSome
  | _ => false
def okvL (S : List Cell) : List D → Bool
  | [] => true
  | d :: l => okv S d && okvL S l
end
mutual
def dep : D → Nat
  | .tup l => depL l + 1
  | _ => 0
def depL : List D → Nat
  | [] => 0
  | d :: l => max (dep d) (depL l)
end
def isCount : D → Bool | .int i => decide (0 ≤ i) | _ => false
def isWidth : D → Bool | .int i => decide (1 ≤ i) && decide (i ≤ 16) | _ => false
def isWord (w : Nat) : D → Bool | .int i => decide (0 ≤ i) && decide (i < 2 ^ w) | _ => false
def intOf : D → Int | .int i => i | _ => 0
def nmC (c : Nat) : Bool := (decide (97 ≤ c) && decide (c ≤ 122)) || (decide (48 ≤ c) && decide (c ≤ 57)) || decide (c = 95)
def nmT : List Nat → Bool
  | [] => false
  | c :: r => !decide (c :: r ∈ u_KEPT) && (decide (97 ≤ c) && decide (c ≤ 122)) && (c :: r).all nmC
def isName : D → Bool | .str x => nmT x | _ => false
def isT : Nat → D → Bool
  | n + 1, .tup (.str k :: r) =>
    if k = cs "name" then (match r with | [x] => isName x | _ => false)
    else if k = cs "const" then (match r with | [w, v] => isWidth w && isWord (intOf w).toNat v | _ => false)
    else if k ∈ u_ONES then (match r with | [x] => isT n x | _ => false)
    else if k ∈ u_PAIRS then (match r with | [x, y] => isT n x && isT n y | _ => false)
    else if k = cs "pick" then (match r with | [x, y, z] => isT n x && (isT n y && isT n z) | _ => false)
    else if k = cs "part" then (match r with | [x, hi, lo] => isCount hi && isCount lo && (decide (intOf hi ≤ 15) && decide (intOf lo ≤ intOf hi)) && isT n x | _ => false)
    else if k = cs "join" then (match r with | [.tup l] => decide (2 ≤ l.length) && l.all (isT n) | _ => false)
    else false
  | _, _ => false
def isInput : D → Bool | .tup [n, w] => isName n && isWidth w | _ => false
def isRegister : D → Bool
  | .tup [n, w, s, t, u] => isName n && isWidth w && isWord (intOf w).toNat s && isT 40 t && (isNonD u || isT 40 u)
  | _ => false
def isNamed : D → Bool | .tup [n, t] => isName n && isT 40 t | _ => false
def pure1 (ok : List Cell → D → Bool) (r : D → Bool) : List D → List Cell → Res D := fun ds S => match ds with
  | [d] => if ok S d = true then .ok (.bl (r d)) S else .stk
  | _ => .stk
def okd (n : Nat) (S : List Cell) (d : D) : Bool := okv S d && decide (dep d ≤ n)
def m_is_count : List D → List Cell → Res D := pure1 okv isCount
def m_is_width : List D → List Cell → Res D := pure1 okv isWidth
def m_is_word : List D → List Cell → Res D := fun ds S => match ds with
  | [d, .int w] => if okv S d = true ∧ 0 ≤ w ∧ w ≤ 1000 then .ok (.bl (isWord w.toNat d)) S else .stk
  | _ => .stk
def m_is_name : List D → List Cell → Res D := pure1 okv isName
def m_is_term (n : Nat) : List D → List Cell → Res D := pure1 (okd n) (isT n)
def m_check_term : List D → List Cell → Res D := fun ds S => match ds with
  | [d] => if okd 40 S d = true then (if isT 40 d = true then .ok .non S else .exc ⟨"InvalidTerm", exFs ns_InvalidTerm .non⟩ S) else .stk
  | _ => .stk
def m_is_input : List D → List Cell → Res D := pure1 okv isInput
def m_is_register : List D → List Cell → Res D := pure1 (okd 40) isRegister
def m_is_named_term : List D → List Cell → Res D := pure1 (okd 40) isNamed
end Fx

namespace Fx
open PySem PySem.Spec PyProof.Rows L2
noncomputable abbrev bb_is_count : MS := (mRet (mAndV (mIsi "int" (mVar 0)) (mAndV (mNotV (mIsi "bool" (mVar 0))) (mBin oGe (mVar 0) (mC (.int 0))))))
noncomputable abbrev bb_is_width : MS := (mRet (mAndV (mCall m_is_count (mCons (mVar 0) mNil)) (mChain oLe oLe (mC (.int 1)) (mVar 0) (mC (.int 16)))))
noncomputable abbrev bb_is_word : MS := (mRet (mAndV (mCall m_is_count (mCons (mVar 0) mNil)) (mBin oLt (mVar 0) (mBin oShl (mC (.int 1)) (mVar 1)))))
noncomputable abbrev bb_is_name : MS := (mSeq (mIf (mOr (mNot (mTru (mIsi "str" (mVar 0)))) (mOr (mTst (mBin oEq (mVar 0) (mC (.str (cs ""))))) (mOr (mTst (mBin oInA (mVar 0) (mC (.tup (u_KEPT.map D.str))))) (mNot (mTst (mChain oLe oLe (mC (.str (cs "a"))) (mBin oIxA (mVar 0) (mC (.int 0))) (mC (.str (cs "z")))))))))
  (mRet (mC (.bl false)))
  mNext)
  (mRet (mF oAllF (mLc (mSeqI (mVar 0)) [1] (gN 1) mYes (mOrV (mChain oLe oLe (mC (.str (cs "a"))) (mVar 1) (mC (.str (cs "z")))) (mOrV (mChain oLe oLe (mC (.str (cs "0"))) (mVar 1) (mC (.str (cs "9")))) (mBin oEq (mVar 1) (mC (.str (cs "_"))))))))))
noncomputable abbrev bb_is_term (r_is_term : List D → List Cell → Res D) : MS := (mSeq (mIf (mOr (mNot (mTru (mIsi "tuple" (mVar 0)))) (mOr (mTst (mBin oLt (mB oLenA (mCons (mVar 0) mNil)) (mC (.int 2)))) (mNot (mTru (mIsi "str" (mBin oIxA (mVar 0) (mC (.int 0))))))))
  (mRet (mC (.bl false)))
  mNext)
  (mSeq (mSet 1 (mBin oIxA (mVar 0) (mC (.int 0))))
  (mSeq (mIf (mTst (mBin oEq (mVar 1) (mC (.str (cs "name")))))
  (mRet (mAndV (mBin oEq (mB oLenA (mCons (mVar 0) mNil)) (mC (.int 2))) (mCall m_is_name (mCons (mBin oIxA (mVar 0) (mC (.int 1))) mNil))))
  mNext)
  (mSeq (mIf (mTst (mBin oEq (mVar 1) (mC (.str (cs "const")))))
  (mRet (mAndV (mBin oEq (mB oLenA (mCons (mVar 0) mNil)) (mC (.int 3))) (mAndV (mCall m_is_width (mCons (mBin oIxA (mVar 0) (mC (.int 1))) mNil)) (mCall m_is_word (mCons (mBin oIxA (mVar 0) (mC (.int 2))) (mCons (mBin oIxA (mVar 0) (mC (.int 1))) mNil))))))
  mNext)
  (mSeq (mIf (mTst (mBin oInA (mVar 1) (mC (.tup (u_ONES.map D.str)))))
  (mRet (mAndV (mBin oEq (mB oLenA (mCons (mVar 0) mNil)) (mC (.int 2))) (mCall r_is_term (mCons (mBin oIxA (mVar 0) (mC (.int 1))) mNil))))
  mNext)
  (mSeq (mIf (mTst (mBin oInA (mVar 1) (mC (.tup (u_PAIRS.map D.str)))))
  (mRet (mAndV (mBin oEq (mB oLenA (mCons (mVar 0) mNil)) (mC (.int 3))) (mAndV (mCall r_is_term (mCons (mBin oIxA (mVar 0) (mC (.int 1))) mNil)) (mCall r_is_term (mCons (mBin oIxA (mVar 0) (mC (.int 2))) mNil)))))
  mNext)
  (mSeq (mIf (mTst (mBin oEq (mVar 1) (mC (.str (cs "pick")))))
  (mRet (mAndV (mBin oEq (mB oLenA (mCons (mVar 0) mNil)) (mC (.int 4))) (mF oAllF (mLc (mSeqI (mSlice (mVar 0) (mPart (mC (.int 1))) mNoPart)) [2] (gN 2) mYes (mCall r_is_term (mCons (mVar 2) mNil))))))
  mNext)
  (mSeq (mIf (mTst (mBin oEq (mVar 1) (mC (.str (cs "part")))))
  (mSeq (mIf (mOr (mTst (mBin oNe (mB oLenA (mCons (mVar 0) mNil)) (mC (.int 4)))) (mOr (mNot (mTru (mCall m_is_count (mCons (mBin oIxA (mVar 0) (mC (.int 2))) mNil)))) (mNot (mTru (mCall m_is_count (mCons (mBin oIxA (mVar 0) (mC (.int 3))) mNil))))))
    (mRet (mC (.bl false)))
    mNext)
    (mRet (mAndV (mChain oGe oGe (mC (.int 15)) (mBin oIxA (mVar 0) (mC (.int 2))) (mBin oIxA (mVar 0) (mC (.int 3)))) (mCall r_is_term (mCons (mBin oIxA (mVar 0) (mC (.int 1))) mNil)))))
  mNext)
  (mSeq (mIf (mTst (mBin oEq (mVar 1) (mC (.str (cs "join")))))
  (mSeq (mIf (mOr (mTst (mBin oNe (mB oLenA (mCons (mVar 0) mNil)) (mC (.int 2)))) (mOr (mNot (mTru (mIsi "tuple" (mBin oIxA (mVar 0) (mC (.int 1)))))) (mTst (mBin oLt (mB oLenA (mCons (mBin oIxA (mVar 0) (mC (.int 1))) mNil)) (mC (.int 2))))))
    (mRet (mC (.bl false)))
    mNext)
    (mRet (mF oAllF (mLc (mSeqI (mBin oIxA (mVar 0) (mC (.int 1)))) [2] (gN 2) mYes (mCall r_is_term (mCons (mVar 2) mNil))))))
  mNext)
  (mRet (mC (.bl false))))))))))))
noncomputable abbrev bb_check_term : MS := (mIf (mNot (mTru (mCall (m_is_term 40) (mCons (mVar 0) mNil))))
  (mRaise "InvalidTerm" ns_InvalidTerm (mC .non))
  mNext)
noncomputable abbrev bb_is_input : MS := (mRet (mAndV (mIsi "tuple" (mVar 0)) (mAndV (mBin oEq (mB oLenA (mCons (mVar 0) mNil)) (mC (.int 2))) (mAndV (mCall m_is_name (mCons (mBin oIxA (mVar 0) (mC (.int 0))) mNil)) (mCall m_is_width (mCons (mBin oIxA (mVar 0) (mC (.int 1))) mNil))))))
noncomputable abbrev bb_is_register : MS := (mSeq (mIf (mOr (mNot (mTru (mIsi "tuple" (mVar 0)))) (mOr (mTst (mBin oNe (mB oLenA (mCons (mVar 0) mNil)) (mC (.int 5)))) (mOr (mNot (mTru (mCall m_is_input (mCons (mSlice (mVar 0) mNoPart (mPart (mC (.int 2)))) mNil)))) (mNot (mTru (mCall m_is_word (mCons (mBin oIxA (mVar 0) (mC (.int 2))) (mCons (mBin oIxA (mVar 0) (mC (.int 1))) mNil))))))))
  (mRet (mC (.bl false)))
  mNext)
  (mRet (mAndV (mCall (m_is_term 40) (mCons (mBin oIxA (mVar 0) (mC (.int 3))) mNil)) (mOrV (mBin oIsN (mBin oIxA (mVar 0) (mC (.int 4))) (mC .non)) (mCall (m_is_term 40) (mCons (mBin oIxA (mVar 0) (mC (.int 4))) mNil))))))
noncomputable abbrev bb_is_named_term : MS := (mRet (mAndV (mIsi "tuple" (mVar 0)) (mAndV (mBin oEq (mB oLenA (mCons (mVar 0) mNil)) (mC (.int 2))) (mAndV (mCall m_is_name (mCons (mBin oIxA (mVar 0) (mC (.int 0))) mNil)) (mCall (m_is_term 40) (mCons (mBin oIxA (mVar 0) (mC (.int 1))) mNil))))))
end Fx

namespace Fx
open PySem PySem.Spec PyProof.Rows L2
section
variable {S : List Cell}
theorem okv_loc {n : Nat} (h : okv S (.loc n) = true) : ∃ xs, cellL S n = some xs := by
  unfold okv at h
  exact Option.isSome_iff_exists.mp h
@[simp] theorem mRaiseN (x : String) (ns : List (List Nat)) (m : ME) (sd : Sl) : mRaise x ns m sd S = (m sd S).thenS sd fun d S1 => .exc ⟨x, exFs ns d⟩ sd S1 := (rfl)
/-- one value in: the cases of a summary that answers by pure1 -/
theorem ref_p1 {ok : List Cell → D → Bool} {r : D → Bool} {b : MS} {n : Nat} (H : ∀ d, ok S d = true → ∃ junk, b (startD n [d]) S = .rt (.bl (r d)) (S ++ junk)) (ds : List D) (hl : ds.length = 1) : RefR S (pure1 ok r ds S) (b (startD n ds) S) := by
  match ds, hl with
  | [d], _ =>
    unfold pure1
    simp only
    split
    · rename_i h
      obtain ⟨junk, e⟩ := H d h
      exact ref_pure (junk := junk) (by simp) e
    · trivial
theorem p1_ok {ok : List Cell → D → Bool} {r : D → Bool} {d : D} (h : ok S d = true) : pure1 ok r [d] S = .ok (.bl (r d)) S := by
  unfold pure1
  simp only [h, if_true]
theorem ref_is_count (ds : List D) (S : List Cell) (h : ds.length = 1) : RefR S (m_is_count ds S) (bb_is_count (startD 1 ds) S) := by
  refine ref_p1 (fun d hd => ⟨[], ?_⟩) ds h
  rw [List.append_nil]
  cases d with
  | loc n =>
    obtain ⟨xs, hx⟩ := okv_loc hd
    simp [startD, isi_loc_int hx, isCount, -cellL_ev]
  | int i => simp [startD, isCount, oGe]
  | adr _ => cases hd
  | lam _ _ _ => cases hd
  | cst _ => cases hd
  | _ => simp [startD, isCount]
theorem ref_is_width (ds : List D) (S : List Cell) (h : ds.length = 1) : RefR S (m_is_width ds S) (bb_is_width (startD 1 ds) S) := by
  refine ref_p1 (fun d hd => ⟨[], ?_⟩) ds h
  rw [List.append_nil]
  have e := p1_ok (r := isCount) hd
  have e : m_is_count [d] S = _ := e
  unfold bb_is_width
  simp only [mRet_ev, mAndV_ev, mCall_ev, mCons_ev, mNil_ev, mVar_ev, startD, List.map_cons, List.map_nil, List.cons_append, List.getElem?_cons_zero, bind_ok, e, truD_bl]
  cases d with
  | int i =>
    by_cases h0 : 0 ≤ i
    · by_cases h1 : 1 ≤ i
      · simp [isCount, isWidth, h0, h1]
      · simp [isCount, isWidth, h0, h1]
    · have h1 : ¬ 1 ≤ i := by omega
      simp [isCount, isWidth, h0, h1]
  | _ => rfl
theorem ref_is_word (ds : List D) (S : List Cell) (h : ds.length = 2) : RefR S (m_is_word ds S) (bb_is_word (startD 2 ds) S) := by
  unfold m_is_word
  split
  · rename_i d w
    split
    · rename_i hd
      refine ref_pure0 (by simp) ?_
      have hc : cPow 1 w = true := by unfold cPow; simp; omega
      have e : m_is_count [d] S = _ := p1_ok (r := isCount) hd.1
      unfold bb_is_word
      simp only [mRet_ev, mAndV_ev, mCall_ev, mCons_ev, mNil_ev, mVar_ev, startD, List.map_cons, List.map_nil, List.cons_append, List.getElem?_cons_zero, bind_ok, e, truD_bl]
      cases d with
      | int i =>
        by_cases h0 : 0 ≤ i
        · simp [isCount, isWord, h0, oShl, hc]
        · simp [isCount, isWord, h0]
      | _ => rfl
    · trivial
  · trivial
theorem oInA_strs {k : List Nat} {u : List (List Nat)} : oInA (.str k) (.tup (u.map D.str)) S = .ok (.bl (decide (k ∈ u))) S := by
  show oIn (.str k) (.tup (u.map D.str)) S = _
  have hf : (flatD (.str k) && (u.map D.str).all flatD) = true := by simp [flatD]
  have e0 : Option.bind (seqD S (.tup (u.map D.str))) (fun xs => if (flatD (.str k) && xs.all flatD) = true then some (xs.any fun y => eqF y (.str k)) else none) = some (decide (k ∈ u)) := by
    rw [seqD_tup]
    simp only [Option.bind_some, hf, if_true]
    congr 1
    rw [Bool.eq_iff_iff]
    simp [eqF]
  have e : inD S (.str k) (.tup (u.map D.str)) = some (decide (k ∈ u)) := by
    unfold inD
    split
    · rename_i h2; cases h2
    · exact e0
  unfold oIn
  rw [e]
theorem blsD_all {xs : List D} (f : D → Bool) : blsD (xs.map fun x => D.bl (f x)) = some (xs.map f) := by
  induction xs with
  | nil => rfl
  | cons x xs ih =>
    show Option.map _ (blsD (xs.map fun x => D.bl (f x))) = _
    rw [ih]; rfl
theorem nm_one (c : Nat) : (if (!decide ([c] < cs "a")) = true then !decide (cs "z" < [c]) else false) = (decide (97 ≤ c) && decide (c ≤ 122)) ∧ (if (!decide ([c] < cs "0")) = true then !decide (cs "9" < [c]) else false) = (decide (48 ≤ c) && decide (c ≤ 57)) := by
  have a1 : cs "a" = [97] := rfl
  have a2 : cs "z" = [122] := rfl
  have a3 : cs "0" = [48] := rfl
  have a4 : cs "9" = [57] := rfl
  have l1 : ∀ a b : Nat, ([a] < [b]) ↔ a < b := fun a b => by
    constructor
    · intro h
      cases h with
      | rel h => exact h
      | cons h => cases h
    · exact fun h => .rel h
  rw [a1, a2, a3, a4]
  constructor
  · rw [Bool.eq_iff_iff]
    simp [l1]
  · rw [Bool.eq_iff_iff]
    simp [l1]
theorem chain_az {c : Nat} {m : ME} {sd : Sl} (h : m sd S = .ok (.str [c]) S) : mChain oLe oLe (mC (.str (cs "a"))) m (mC (.str (cs "z"))) sd S = .ok (.bl (decide (97 ≤ c) && decide (c ≤ 122))) S := by
  have h1 := (nm_one c).1
  rw [← h1]
  simp only [mChain_ev, mC_ev, h, oLe_str, bind_ok]
  split <;> simp
theorem ref_is_name (ds : List D) (S : List Cell) (h : ds.length = 1) : RefR S (m_is_name ds S) (bb_is_name (startD 2 ds) S) := by
  refine ref_p1 (fun d hd => ⟨[], ?_⟩) ds h
  rw [List.append_nil]
  unfold bb_is_name
  cases d with
  | loc n =>
    obtain ⟨xs, hx⟩ := okv_loc hd
    simp [startD, isi_loc_str hx, isName, -cellL_ev]
  | adr _ => cases hd
  | lam _ _ _ => cases hd
  | cst _ => cases hd
  | str x =>
    have hd : (okT x && decide (x.length ≤ 1000)) = true := hd
    rw [Bool.and_eq_true] at hd
    obtain ⟨hx, hl⟩ := hd
    have hl : x.length ≤ 1000 := by simpa using hl
    have e0 : okT (cs "") = true := rfl
    cases x with
    | nil =>
      have hE : oEq (.str []) (.str []) S = .ok (.bl true) S := eq_str hx hx
      simp [startD, isName, nmT, hE, show cs "" = [] from rfl]
    | cons c r =>
      have hsz : (c :: r).length ≤ sizeLine := line_le (by omega)
      have ne : ((c :: r) == cs "") = false := rfl
      have eix : oIxA (.str (c :: r)) (.int 0) S = .ok (.str [c]) S := by
        rw [oIxA_str, if_pos hsz]
        simp
      have eaz := chain_az (S := S) (c := c) (m := mBin oIxA (mVar 0) (mC (.int 0))) (sd := [some (.str (c :: r)), none]) (by simp only [mBin_ev, mVar_ev, List.getElem?_cons_zero, mC_ev, bind_ok, eix])
      by_cases hk : c :: r ∈ u_KEPT
      · simp [startD, isName, nmT, eq_str hx e0, oInA_strs, hk, ne]
      · by_cases hc : (decide (97 ≤ c) && decide (c ≤ 122)) = true
        · have lc := lcGo_map (it := ⟨(c :: r).map fun c => D.str [c], none⟩) (ws := [1]) (g := gN 1) (t := mYes) (e := (mOrV (mChain oLe oLe (mC (.str (cs "a"))) (mVar 1) (mC (.str (cs "z")))) (mOrV (mChain oLe oLe (mC (.str (cs "0"))) (mVar 1) (mC (.str (cs "9")))) (mBin oEq (mVar 1) (mC (.str (cs "_"))))))) (S := S)
            (sd := [some (.str (c :: r)), none]) (fun x => match x with | .str [c] => .bl (nmC c) | _ => .non) trivial ((c :: r).map fun c => D.str [c]) [] (fun y hy => by
              obtain ⟨a, ha, rfl⟩ := List.mem_map.mp hy
              refine ⟨_, rfl, rfl, ?_⟩
              have ho : okT [a] = true := by
                unfold okT at hx ⊢
                have := List.all_eq_true.mp hx a ha
                simpa using this
              have e95 : oEq (.str [a]) (.str (cs "_")) S = .ok (.bl ([a] == cs "_")) S := eq_str ho rfl
              have e3 : ([a] == cs "_") = decide (a = 95) := by
                rw [Bool.eq_iff_iff]
                simp [show cs "_" = [95] from rfl]
              rw [e3] at e95
              have e1 := (nm_one a).1
              have e2 := (nm_one a).2
              simp only [mOrV_ev, mChain_ev, mBin_ev, mC_ev, mVar_ev, wipeD, List.set_cons_succ, List.set_cons_zero, List.getElem?_cons_succ, List.getElem?_cons_zero, bind_ok, oLe_str, truD_bl, e95]
              unfold nmC
              by_cases p1 : (!decide ([a] < cs "a")) = true
              · rw [if_pos p1] at e1
                by_cases p2 : (!decide ([a] < cs "0")) = true
                · rw [if_pos p2] at e2
                  simp only [p1, p2, if_true, bind_ok, truD_bl, e1, e2]
                  cases (decide (97 ≤ a) && decide (a ≤ 122)) <;> cases (decide (48 ≤ a) && decide (a ≤ 57)) <;> simp [e95]
                · rw [if_neg p2] at e2
                  simp only [p1, p2, if_true, bind_ok, truD_bl, e1, ← e2]
                  cases (decide (97 ≤ a) && decide (a ≤ 122)) <;> simp [e95]
              · rw [if_neg p1] at e1
                by_cases p2 : (!decide ([a] < cs "0")) = true
                · rw [if_pos p2] at e2
                  simp only [p1, p2, if_true, bind_ok, truD_bl, ← e1, e2]
                  cases (decide (48 ≤ a) && decide (a ≤ 57)) <;> simp [e95]
                · rw [if_neg p2] at e2
                  simp only [p1, p2, bind_ok, truD_bl, ← e1, ← e2]
                  simp [e95]) (by simp only [List.length_nil, List.length_map]; omega)
          rw [List.nil_append] at lc
          have hb : blsD (((c :: r).map fun c => D.str [c]).map (fun x => match x with | .str [c] => D.bl (nmC c) | _ => .non)) = some ((c :: r).map nmC) := by
            rw [List.map_map]
            show blsD ((c :: r).map fun x => D.bl (nmC x)) = _
            induction (c :: r) with
            | nil => rfl
            | cons x xs ih =>
              show Option.map _ (blsD (xs.map fun x => D.bl (nmC x))) = _
              rw [ih]; rfl
          generalize List.map (fun x => match x with | .str [c] => D.bl (nmC c) | _ => .non) ((c :: r).map fun c => D.str [c]) = L at lc hb
          have lc' := lc
          have hb' := hb
          simp only [List.map_cons] at lc' hb'
          simp only [startD, List.map_cons, List.map_nil, List.length_cons, List.length_nil, List.cons_append, List.nil_append, List.replicate, mSeq_ev, mIf_ev, mOr_ev, mNot_ev, mTru_ev, mIsi_ev, mVar_ev, List.getElem?_cons_zero, bind_ok, isi_str_str, truD_bl, optR_some, Bool.not_true, Bool.false_eq_true, if_false, mTst_ev, mBin_ev, mC_ev, eq_str hx e0, ne, blD_bl, oInA_strs, hk, decide_false, eaz, hc, thenS_ok, mNext_ev, mRet_ev, mF_ev, mLc_ev, mSeqI_ev,
            show Nat.sub (0 + 1 + 1) (0 + 1) = 1 from rfl]
          rw [lc']
          simp only [bind_ok, oAllF_ev, hb', thenS_ok, isName, nmT, hk, decide_false, Bool.not_false, hc, Bool.true_and]
          simp
        · have hc : (decide (97 ≤ c) && decide (c ≤ 122)) = false := by simpa using hc
          simp only [startD, List.map_cons, List.map_nil, List.length_cons, List.length_nil, List.cons_append, List.nil_append, List.replicate, mSeq_ev, mIf_ev, mOr_ev, mNot_ev, mTru_ev, mIsi_ev, mVar_ev, List.getElem?_cons_zero, bind_ok, isi_str_str, truD_bl, optR_some, Bool.not_true, Bool.not_false, if_true, Bool.false_eq_true, if_false, mTst_ev, mBin_ev, mC_ev, eq_str hx e0, ne, blD_bl, oInA_strs, hk, decide_false, eaz, hc, thenS_ok, mRet_ev]
          simp only [isName, nmT, hk, decide_false, Bool.not_false, hc, Bool.true_and, Bool.and_false, Bool.false_and]
  | _ => simp [startD, isName]
end
end Fx

namespace Fx
open PySem PySem.Spec PyProof.Rows L2
section
variable {S : List Cell}
theorem seq_if {t : MT} {a rest : MS} {sd : Sl} {p : Bool} {d : D} (ht : t sd S = .ok p S) (ha : p = true → a sd S = .rt d S) (hb : p = false → rest sd S = .rt d S) : mSeq (mIf t a mNext) rest sd S = .rt d S := by
  simp only [mSeq_ev, mIf_ev, ht, thenS_ok]
  cases p with
  | true => simp only [if_true, ha rfl]
  | false => simp only [Bool.false_eq_true, if_false, mNext_ev, hb rfl]
theorem seq_nx {a b : MS} {sd sd1 : Sl} {r : ResS} (h : a sd S = .nx sd1 S) (h2 : b sd1 S = r) : mSeq a b sd S = r := by
  simp only [mSeq_ev, h, h2]
theorem andV_bl {a b : ME} {sd : Sl} {p q : Bool} (ha : a sd S = .ok (.bl p) S) (hb : p = true → b sd S = .ok (.bl q) S) : mAndV a b sd S = .ok (.bl (p && q)) S := by
  simp only [mAndV_ev, ha, bind_ok, truD_bl]
  cases p with
  | true => simp only [hb rfl, Bool.true_and]
  | false => simp only [Bool.false_and]
theorem andV_f {a b : ME} {sd : Sl} {p : Bool} (ha : a sd S = .ok (.bl p) S) (hp : p = false) : mAndV a b sd S = .ok (.bl false) S := by
  subst hp
  simp only [mAndV_ev, ha, bind_ok, truD_bl]
theorem andV_t {a b : ME} {sd : Sl} {p : Bool} {r : Res D} (ha : a sd S = .ok (.bl p) S) (hb : b sd S = r) (hp : p = true := by rfl) : mAndV a b sd S = r := by
  subst hp
  simp only [mAndV_ev, ha, bind_ok, truD_bl, hb]
theorem ret_of {m : ME} {sd : Sl} {d : D} (h : m sd S = .ok d S) : mRet m sd S = .rt d S := by
  simp only [mRet_ev, h, thenS_ok]
theorem call1 {f : List D → List Cell → Res D} {a : ME} {sd : Sl} {d : D} {r : Res D} (h : a sd S = .ok d S) (h2 : f [d] S = r) : mCall f (mCons a mNil) sd S = r := by
  simp only [mCall_ev, mCons_ev, mNil_ev, h, bind_ok, h2]
theorem call2 {f : List D → List Cell → Res D} {a b : ME} {sd : Sl} {d e : D} {r : Res D} (h : a sd S = .ok d S) (h' : b sd S = .ok e S) (h2 : f [d, e] S = r) : mCall f (mCons a (mCons b mNil)) sd S = r := by
  simp only [mCall_ev, mCons_ev, mNil_ev, h, h', bind_ok, h2]
theorem isT_nt {n : Nat} {d : D} (h : ∀ l, d ≠ .tup l) : isT n d = false := by
  cases n with
  | zero => rfl
  | succ n =>
    cases d with
    | tup l => exact absurd rfl (h l)
    | _ => rfl
theorem isT_one {n : Nat} {x : D} : isT n (.tup [x]) = false := by
  cases n with
  | zero => rfl
  | succ n =>
    cases x with
    | str k =>
      unfold isT
      repeat' split
      all_goals first | rfl | (rename_i h; cases h)
    | _ => rfl
theorem isT_ns {n : Nat} {x : D} {r : List D} (h : ∀ k, x ≠ .str k) : isT n (.tup (x :: r)) = false := by
  cases n with
  | zero => rfl
  | succ n =>
    cases x with
    | str k => exact absurd rfl (h k)
    | _ => rfl
theorem dep_tup {l : List D} {n : Nat} (h : dep (.tup l) ≤ n) : ∃ m, n = m + 1 ∧ depL l ≤ m := by
  have : dep (.tup l) = depL l + 1 := by rw [dep]
  exact ⟨n - 1, by omega, by omega⟩
theorem depL_cons {d : D} {l : List D} {m : Nat} (h : depL (d :: l) ≤ m) : dep d ≤ m ∧ depL l ≤ m := by
  have : depL (d :: l) = max (dep d) (depL l) := by rw [depL]
  omega
theorem okv_tup {l : List D} (h : okv S (.tup l) = true) : l.length ≤ 1000 ∧ okvL S l = true := by
  rw [okv, Bool.and_eq_true, decide_eq_true_eq] at h
  exact h
theorem okvL_cons {d : D} {l : List D} (h : okvL S (d :: l) = true) : okv S d = true ∧ okvL S l = true := by
  rw [okvL, Bool.and_eq_true] at h
  exact h
theorem okv_str {x : List Nat} (h : okv S (.str x) = true) : okT x = true ∧ x.length ≤ 1000 := by
  rw [okv, Bool.and_eq_true, decide_eq_true_eq] at h
  exact h
theorem okd_of {n : Nat} {d : D} (h : okv S d = true) (h2 : dep d ≤ n) : okd n S d = true := by
  unfold okd
  rw [Bool.and_eq_true, decide_eq_true_eq]
  exact ⟨h, h2⟩
theorem okd_inv {n : Nat} {d : D} (h : okd n S d = true) : okv S d = true ∧ dep d ≤ n := by
  unfold okd at h
  rwa [Bool.and_eq_true, decide_eq_true_eq] at h
/-- each of a row: all of them -/
theorem all_row {rs : List D → List Cell → Res D} {f : D → Bool} {mi : ME} {sd : Sl} {a b : D} {xs : List D} (hsd : sd = [some a, some b, none]) (hi : (mSeqI mi) sd S = .ok ⟨xs, none⟩ S) (hx : ∀ x ∈ xs, rs [x] S = .ok (.bl (f x)) S) (hz : xs.length ≤ 1000) :
    mF oAllF (mLc (mSeqI mi) [2] (gN 2) mYes (mCall rs (mCons (mVar 2) mNil))) sd S = .ok (.bl (xs.all f)) S := by
  have lc := lcGo_map (it := ⟨xs, none⟩) (ws := [2]) (g := gN 2) (t := mYes) (e := mCall rs (mCons (mVar 2) mNil)) (S := S) (sd := sd) (fun x => .bl (f x)) trivial xs [] (fun y hy => ⟨_, rfl, rfl, by
    subst hsd
    simp only [mCall_ev, mCons_ev, mVar_ev, mNil_ev, wipeD, List.set_cons_succ, List.set_cons_zero, List.getElem?_cons_succ, List.getElem?_cons_zero, bind_ok, hx y hy]⟩) (by
    have : xs.length ≤ sizeLine := line_le (by omega)
    simpa using this)
  simp only [mF_ev, mLc_ev, hi, bind_ok, lc, List.nil_append, oAllF_ev, blsD_all]
  simp
theorem okvL_mem {l : List D} (h : okvL S l = true) : ∀ x ∈ l, okv S x = true := by
  induction l with
  | nil => intro x hx; cases hx
  | cons d l ih =>
    obtain ⟨h1, h2⟩ := okvL_cons h
    intro x hx
    rcases List.mem_cons.mp hx with rfl | hx
    · exact h1
    · exact ih h2 x hx
theorem depL_mem {l : List D} {m : Nat} (h : depL l ≤ m) : ∀ x ∈ l, dep x ≤ m := by
  induction l with
  | nil => intro x hx; cases hx
  | cons d l ih =>
    obtain ⟨h1, h2⟩ := depL_cons h
    intro x hx
    rcases List.mem_cons.mp hx with rfl | hx
    · exact h1
    · exact ih h2 x hx
theorem width_int {w : D} (h : isWidth w = true) : ∃ i, w = .int i ∧ 1 ≤ i ∧ i ≤ 16 := by
  cases w with
  | int i =>
    have h : (decide (1 ≤ i) && decide (i ≤ 16)) = true := h
    rw [Bool.and_eq_true, decide_eq_true_eq, decide_eq_true_eq] at h
    exact ⟨i, rfl, h⟩
  | _ => cases h
theorem count_int {w : D} (h : isCount w = true) : ∃ i, w = .int i ∧ 0 ≤ i := by
  cases w with
  | int i => exact ⟨i, rfl, by simpa [isCount] using h⟩
  | _ => cases h
theorem isT_eq (n : Nat) (k : List Nat) (r : List D) : isT (n + 1) (.tup (.str k :: r)) =
    if k = cs "name" then (match r with | [x] => isName x | _ => false)
    else if k = cs "const" then (match r with | [w, v] => isWidth w && isWord (intOf w).toNat v | _ => false)
    else if k ∈ u_ONES then (match r with | [x] => isT n x | _ => false)
    else if k ∈ u_PAIRS then (match r with | [x, y] => isT n x && isT n y | _ => false)
    else if k = cs "pick" then (match r with | [x, y, z] => isT n x && (isT n y && isT n z) | _ => false)
    else if k = cs "part" then (match r with | [x, hi, lo] => isCount hi && isCount lo && (decide (intOf hi ≤ 15) && decide (intOf lo ≤ intOf hi)) && isT n x | _ => false)
    else if k = cs "join" then (match r with | [.tup l] => decide (2 ≤ l.length) && l.all (isT n) | _ => false)
    else false := (rfl)
theorem ref_is_term (n : Nat) (rs : List D → List Cell → Res D) (hrs : ∀ m, n = m + 1 → rs = m_is_term m) (ds : List D) (S : List Cell) (hl : ds.length = 1) : RefR S (m_is_term n ds S) (bb_is_term rs (startD 3 ds) S) := by
  refine ref_p1 (fun d hd => ⟨[], ?_⟩) ds hl
  rw [List.append_nil]
  obtain ⟨hv, hdp⟩ := okd_inv hd
  have hst : startD 3 [d] = [some d, none, none] := rfl
  rw [hst]
  unfold bb_is_term
  cases d with
  | tup l =>
    obtain ⟨m, rfl, hdl⟩ := dep_tup hdp
    obtain rfl := hrs m rfl
    obtain ⟨hlen, hvl⟩ := okv_tup hv
    have iT : (mIsi "tuple" (mVar 0)) [some (.tup l), none, none] S = .ok (.bl true) S := by simp
    match l, hlen, hvl, hdl with
    | [], _, _, _ =>
      refine seq_if (p := true) ?_ ?_ ?_
      · simp
      · intro _; rfl
      · intro h; cases h
    | [x], _, _, _ =>
      refine seq_if (p := true) ?_ ?_ ?_
      · simp
      · intro _; rw [isT_one]; rfl
      · intro h; cases h
    | x :: y :: r, hlen, hvl, hdl =>
      obtain ⟨vx, hvl⟩ := okvL_cons hvl
      obtain ⟨vy, vr⟩ := okvL_cons hvl
      obtain ⟨_, hdl⟩ := depL_cons hdl
      obtain ⟨dy, dr⟩ := depL_cons hdl
      have rT : ∀ z : D, okv S z = true → dep z ≤ m → m_is_term m [z] S = .ok (.bl (isT m z)) S := fun z h1 h2 => p1_ok (okd_of h1 h2)
      have rN : ∀ z : D, okv S z = true → m_is_name [z] S = .ok (.bl (isName z)) S := fun z h1 => p1_ok h1
      have rW : ∀ z : D, okv S z = true → m_is_width [z] S = .ok (.bl (isWidth z)) S := fun z h1 => p1_ok h1
      have rC : ∀ z : D, okv S z = true → m_is_count [z] S = .ok (.bl (isCount z)) S := fun z h1 => p1_ok h1
      have l2 : decide (((x :: y :: r).length : Int) < 2) = false := by simp; omega
      cases x with
      | str k =>
        obtain ⟨hk, _⟩ := okv_str vx
        refine seq_if (p := false) ?_ ?_ ?_
        · simp only [mOr_ev, mNot_ev, mTru_ev, mIsi_ev, mVar_ev, List.getElem?_cons_zero, bind_ok, isi_tup_tuple, truD_bl, optR_some, Bool.not_true, Bool.false_eq_true, if_false, mTst_ev, mBin_ev, mB_ev, mCons_ev, mNil_ev, oLenA_tup, mC_ev, oLt_int, l2, blD_bl, oIxA_tup, atI_zero, isi_str_str]
        · intro h; cases h
        intro _
        have e1 : ∀ c, okT c = true → (mTst (mBin oEq (mVar 1) (mC (.str c)))) [some (.tup (.str k :: y :: r)), some (.str k), none] S = .ok (k == c) S := fun c hc => by
          simp only [mTst_ev, mBin_ev, mVar_ev, List.getElem?_cons_succ, List.getElem?_cons_zero, bind_ok, mC_ev, eq_str hk hc, blD_bl, optR_some]
        have e2 : ∀ u : List (List Nat), (mTst (mBin oInA (mVar 1) (mC (.tup (u.map D.str))))) [some (.tup (.str k :: y :: r)), some (.str k), none] S = .ok (decide (k ∈ u)) S := fun u => by
          simp only [mTst_ev, mBin_ev, mVar_ev, List.getElem?_cons_succ, List.getElem?_cons_zero, bind_ok, mC_ev, oInA_strs, blD_bl, optR_some]
        have eL : ∀ j : Int, (mBin oEq (mB oLenA (mCons (mVar 0) mNil)) (mC (.int j))) [some (.tup (.str k :: y :: r)), some (.str k), none] S = .ok (.bl (((r.length : Nat) : Int) + 2 == j)) S := fun j => by
          simp only [mBin_ev, mB_ev, mCons_ev, mVar_ev, List.getElem?_cons_zero, bind_ok, mNil_ev, oLenA_tup, mC_ev, oEq_int, List.length_cons]
          rw [show (((r.length + 1 + 1 : Nat)) : Int) = (r.length : Int) + 2 by omega]
        have eLn : ∀ j : Int, (mTst (mBin oNe (mB oLenA (mCons (mVar 0) mNil)) (mC (.int j)))) [some (.tup (.str k :: y :: r)), some (.str k), none] S = .ok (((r.length : Nat) : Int) + 2 != j) S := fun j => by
          simp only [mTst_ev, mBin_ev, mB_ev, mCons_ev, mVar_ev, List.getElem?_cons_zero, bind_ok, mNil_ev, oLenA_tup, mC_ev, oNe_int, List.length_cons, blD_bl, optR_some]
          rw [show (((r.length + 1 + 1 : Nat)) : Int) = (r.length : Int) + 2 by omega]
        have eI1 : (mBin oIxA (mVar 0) (mC (.int 1))) [some (.tup (.str k :: y :: r)), some (.str k), none] S = .ok y S := by
          simp [atI_one]
        refine seq_nx (sd1 := [some (.tup (.str k :: y :: r)), some (.str k), none]) (by simp [atI_zero]) ?_
        have TT := isT_eq m k (y :: r)
        refine seq_if (e1 (cs "name") rfl) (fun h1 => ?_) (fun h1 => ?_)
        · rw [TT, if_pos (by simpa using h1)]
          cases r with
          | nil => exact ret_of (andV_t (eL 2) (call1 eI1 (rN y vy)))
          | cons z r => exact ret_of (andV_f (eL 2) (by simp; omega))
        have h1 : ¬ k = cs "name" := by simpa using h1
        rw [if_neg h1] at TT
        refine seq_if (e1 (cs "const") rfl) (fun h2 => ?_) (fun h2 => ?_)
        · rw [TT, if_pos (by simpa using h2)]
          match r, vr with
          | [], _ => exact ret_of (andV_f (eL 3) (by simp))
          | [v], vr =>
            obtain ⟨vv, _⟩ := okvL_cons vr
            refine ret_of (andV_t (eL 3) (andV_bl (call1 eI1 (rW y vy)) fun hw => ?_))
            obtain ⟨i, rfl, i1, i2⟩ := width_int hw
            refine call2 (e := .int i) (d := v) (by simp [atI, ixN]) eI1 ?_
            unfold m_is_word
            simp only [vv, true_and]
            rw [if_pos (by omega)]
            rfl
          | v :: u :: r, _ => exact ret_of (andV_f (eL 3) (by simp; omega))
        have h2 : ¬ k = cs "const" := by simpa using h2
        rw [if_neg h2] at TT
        refine seq_if (e2 u_ONES) (fun h3 => ?_) (fun h3 => ?_)
        · rw [TT, if_pos (by simpa using h3)]
          cases r with
          | nil => exact ret_of (andV_t (eL 2) (call1 eI1 (rT y vy dy)))
          | cons z r => exact ret_of (andV_f (eL 2) (by simp; omega))
        have h3 : ¬ k ∈ u_ONES := by simpa using h3
        rw [if_neg h3] at TT
        refine seq_if (e2 u_PAIRS) (fun h4 => ?_) (fun h4 => ?_)
        · rw [TT, if_pos (by simpa using h4)]
          match r, vr, dr with
          | [], _, _ => exact ret_of (andV_f (eL 3) (by simp))
          | [v], vr, dr =>
            obtain ⟨vv, _⟩ := okvL_cons vr
            obtain ⟨dv, _⟩ := depL_cons dr
            exact ret_of (andV_t (eL 3) (andV_bl (call1 eI1 (rT y vy dy)) fun hw => call1 (d := v) (by simp [atI, ixN]) (rT v vv dv)))
          | v :: u :: r, _, _ => exact ret_of (andV_f (eL 3) (by simp; omega))
        have h4 : ¬ k ∈ u_PAIRS := by simpa using h4
        rw [if_neg h4] at TT
        refine seq_if (e1 (cs "pick") rfl) (fun h5 => ?_) (fun h5 => ?_)
        · rw [TT, if_pos (by simpa using h5)]
          match r, vr, dr with
          | [], _, _ => exact ret_of (andV_f (eL 4) (by simp))
          | [v], _, _ => exact ret_of (andV_f (eL 4) (by simp))
          | [v, u], vr, dr =>
            obtain ⟨vv, vr⟩ := okvL_cons vr
            obtain ⟨vu, _⟩ := okvL_cons vr
            obtain ⟨dv, dr⟩ := depL_cons dr
            obtain ⟨du, _⟩ := depL_cons dr
            have := all_row (S := S) (rs := m_is_term m) (f := isT m) (mi := mSlice (mVar 0) (mPart (mC (.int 1))) mNoPart) (a := .tup [.str k, y, v, u]) (b := .str k) (xs := [y, v, u]) rfl (by simp; rfl) (fun x hx => by
              simp only [List.mem_cons, List.not_mem_nil, or_false] at hx
              rcases hx with rfl | rfl | rfl
              · exact rT _ vy dy
              · exact rT _ vv dv
              · exact rT _ vu du) (by simp)
            have e3 : [y, v, u].all (isT m) = (isT m y && (isT m v && isT m u)) := by simp
            rw [e3] at this
            exact ret_of (andV_t (eL 4) this)
          | v :: u :: w :: r, _, _ => exact ret_of (andV_f (eL 4) (by simp; omega))
        have h5 : ¬ k = cs "pick" := by simpa using h5
        rw [if_neg h5] at TT
        refine seq_if (e1 (cs "part") rfl) (fun h6 => ?_) (fun h6 => ?_)
        · rw [TT, if_pos (by simpa using h6)]
          match r, vr, dr with
          | [], _, _ =>
            refine seq_if (p := true) ?_ ?_ ?_
            · rw [mOr_ev, eLn 4]; rfl
            · intro _; rfl
            · intro h; cases h
          | [v], _, _ =>
            refine seq_if (p := true) ?_ ?_ ?_
            · rw [mOr_ev, eLn 4]; rfl
            · intro _; rfl
            · intro h; cases h
          | [v, u], vr, dr =>
            obtain ⟨vv, vr⟩ := okvL_cons vr
            obtain ⟨vu, _⟩ := okvL_cons vr
            have iv : (mBin oIxA (mVar 0) (mC (.int 2))) [some (.tup [.str k, y, v, u]), some (.str k), none] S = .ok v S := by simp [atI, ixN]
            have iu : (mBin oIxA (mVar 0) (mC (.int 3))) [some (.tup [.str k, y, v, u]), some (.str k), none] S = .ok u S := by simp [atI, ixN]
            have cv := call1 iv (rC v vv)
            have cu := call1 iu (rC u vu)
            refine seq_if (p := !(isCount v && isCount u)) ?_ ?_ ?_
            · simp only [mOr_ev, eLn 4, bind_ok, mNot_ev, mTru_ev, cv, cu, truD_bl, optR_some]
              cases isCount v <;> cases isCount u <;> simp
            · intro h
              rw [Bool.not_eq_true'] at h
              dsimp only
              rw [h]
              rfl
            · intro h
              rw [Bool.not_eq_false', Bool.and_eq_true] at h
              obtain ⟨hv', hu'⟩ := h
              dsimp only
              rw [hv', hu']
              obtain ⟨i, rfl, hi⟩ := count_int hv'
              obtain ⟨j, rfl, hj⟩ := count_int hu'
              have hc : mChain oGe oGe (mC (.int 15)) (mBin oIxA (mVar 0) (mC (.int 2))) (mBin oIxA (mVar 0) (mC (.int 3))) [some (.tup [.str k, y, .int i, .int j]), some (.str k), none] S = .ok (.bl (decide (i ≤ 15) && decide (j ≤ i))) S := by
                simp only [mChain_ev, mC_ev, bind_ok, iv, iu]
                by_cases h15 : i ≤ 15
                · simp [oGe, h15]
                · simp [oGe, h15]
              exact ret_of (andV_bl hc fun _ => call1 eI1 (rT y vy dy))
          | v :: u :: w :: r, _, _ =>
            refine seq_if (p := true) ?_ ?_ ?_
            · rw [mOr_ev, eLn 4, show (((v :: u :: w :: r).length : Nat) : Int) + 2 != 4 from by simp; omega]; rfl
            · intro _; rfl
            · intro h; cases h
        have h6 : ¬ k = cs "part" := by simpa using h6
        rw [if_neg h6] at TT
        refine seq_if (e1 (cs "join") rfl) (fun h7 => ?_) (fun h7 => ?_)
        · rw [TT, if_pos (by simpa using h7)]
          cases r with
          | cons z r =>
            refine seq_if (p := true) ?_ ?_ ?_
            · rw [mOr_ev, eLn 2, show (((z :: r).length : Nat) : Int) + 2 != 2 from by simp; omega]; rfl
            · intro _; cases y <;> rfl
            · intro h; cases h
          | nil =>
            have f1 : ∀ p : Bool, (mNot (mTru (mIsi "tuple" (mBin oIxA (mVar 0) (mC (.int 1)))))) [some (.tup [.str k, y]), some (.str k), none] S = .ok p S → (mOr (mTst (mBin oNe (mB oLenA (mCons (mVar 0) mNil)) (mC (.int 2)))) (mOr (mNot (mTru (mIsi "tuple" (mBin oIxA (mVar 0) (mC (.int 1)))))) (mTst (mBin oLt (mB oLenA (mCons (mBin oIxA (mVar 0) (mC (.int 1))) mNil)) (mC (.int 2))))))
                [some (.tup [.str k, y]), some (.str k), none] S = if p = true then .ok true S else (mTst (mBin oLt (mB oLenA (mCons (mBin oIxA (mVar 0) (mC (.int 1))) mNil)) (mC (.int 2)))) [some (.tup [.str k, y]), some (.str k), none] S := fun p hp => by
              simp only [mOr_ev, eLn 2, bind_ok, hp]
              rfl
            cases y with
            | tup l =>
              obtain ⟨hl', vl⟩ := okv_tup vy
              obtain ⟨q, rfl, dl⟩ := dep_tup dy
              refine seq_if (p := decide ((l.length : Int) < 2)) ?_ ?_ ?_
              · rw [f1 false (by simp only [mNot_ev, mTru_ev, mIsi_ev, eI1, bind_ok, isi_tup_tuple, truD_bl, optR_some, Bool.not_true])]
                simp only [Bool.false_eq_true, if_false, mTst_ev, mBin_ev, mB_ev, mCons_ev, mNil_ev, mVar_ev, mC_ev, List.getElem?_cons_zero, bind_ok, oIxA_tup, atI_one, List.getElem?_cons_succ, optR_some, oLenA_tup, oLt_int, blD_bl]
              · intro h
                dsimp only
                rw [show decide (2 ≤ l.length) = false by simp at h ⊢; omega]
                rfl
              · intro h
                dsimp only
                rw [show decide (2 ≤ l.length) = true by simp at h ⊢; omega, Bool.true_and]
                exact ret_of (all_row (a := .tup [.str k, .tup l]) (b := .str k) rfl (by simp only [mSeqI_ev, eI1, bind_ok]) (fun x hx => rT x (okvL_mem vl x hx) (by have := depL_mem dl x hx; omega)) hl')
            | loc j =>
              obtain ⟨xs, hx⟩ := okv_loc vy
              refine seq_if (p := true) ?_ ?_ ?_
              · rw [f1 true (by simp only [mNot_ev, mTru_ev, mIsi_ev, eI1, bind_ok, isi_loc_tuple hx, truD_bl, optR_some, Bool.not_false])]; rfl
              · intro _; rfl
              · intro h; cases h
            | adr _ => cases vy
            | lam _ _ _ => cases vy
            | cst _ => cases vy
            | _ =>
              refine seq_if (p := true) ?_ ?_ ?_
              · rw [f1 true (by simp only [mNot_ev, mTru_ev, mIsi_ev, eI1, bind_ok, isi_non_tuple, isi_bl_tuple, isi_int_tuple, isi_str_tuple, truD_bl, optR_some, Bool.not_false])]; rfl
              · intro _; rfl
              · intro h; cases h
        have h7 : ¬ k = cs "join" := by simpa using h7
        rw [if_neg h7] at TT
        rw [TT]
        exact ret_of rfl
      | loc j =>
        obtain ⟨xs, hx⟩ := okv_loc vx
        refine seq_if (p := true) ?_ ?_ ?_
        · simp only [mOr_ev, mNot_ev, mTru_ev, mIsi_ev, mVar_ev, List.getElem?_cons_zero, bind_ok, isi_tup_tuple, truD_bl, optR_some, Bool.not_true, Bool.false_eq_true, if_false, mTst_ev, mBin_ev, mB_ev, mCons_ev, mNil_ev, oLenA_tup, mC_ev, oLt_int, l2, blD_bl, oIxA_tup, atI_zero, isi_loc_str hx, Bool.not_false]
        · intro _; rw [isT_ns (by intro k h; cases h)]; rfl
        · intro h; cases h
      | adr _ => cases vx
      | lam _ _ _ => cases vx
      | cst _ => cases vx
      | _ =>
        refine seq_if (p := true) ?_ ?_ ?_
        · simp only [mOr_ev, mNot_ev, mTru_ev, mIsi_ev, mVar_ev, List.getElem?_cons_zero, bind_ok, isi_tup_tuple, truD_bl, optR_some, Bool.not_true, Bool.false_eq_true, if_false, mTst_ev, mBin_ev, mB_ev, mCons_ev, mNil_ev, oLenA_tup, mC_ev, oLt_int, l2, blD_bl, oIxA_tup, atI_zero, isi_non_str, isi_bl_str, isi_int_str, isi_tup_str, Bool.not_false]
        · intro _; rw [isT_ns (by intro k h; cases h)]; rfl
        · intro h; cases h
  | loc j =>
    obtain ⟨xs, hx⟩ := okv_loc hv
    refine seq_if (p := true) ?_ ?_ ?_
    · simp [isi_loc_tuple hx, -cellL_ev]
    · intro _; rw [isT_nt (by intro l h; cases h)]; rfl
    · intro h; cases h
  | adr _ => cases hv
  | lam _ _ _ => cases hv
  | cst _ => cases hv
  | _ =>
    refine seq_if (p := true) ?_ ?_ ?_
    · simp
    · intro _; rw [isT_nt (by intro l h; cases h)]; rfl
    · intro h; cases h
end
end Fx

namespace Fx
open PySem PySem.Spec PyProof.Rows L2
section
variable {S : List Cell}
theorem ref_check_term (ds : List D) (S : List Cell) (h : ds.length = 1) : RefR S (m_check_term ds S) (bb_check_term (startD 1 ds) S) := by
  match ds, h with
  | [d], _ =>
    unfold m_check_term
    simp only
    split
    · rename_i hd
      have e : m_is_term 40 [d] S = .ok (.bl (isT 40 d)) S := p1_ok hd
      have et : (mNot (mTru (mCall (m_is_term 40) (mCons (mVar 0) mNil)))) (startD 1 [d]) S = .ok (!isT 40 d) S := by
        simp only [mNot_ev, mTru_ev, mCall_ev, mCons_ev, mVar_ev, mNil_ev, startD, List.map_cons, List.map_nil, List.cons_append, List.getElem?_cons_zero, bind_ok, e, truD_bl, optR_some]
      unfold bb_check_term
      simp only [mIf_ev, et, thenS_ok]
      split
      · rename_i ht
        rw [ht]
        exact ⟨Nat.le_refl _, by simp, fun c hc => .inl hc, [], .inr ⟨rfl, startD 1 [d], by simp [mNext_ev]⟩⟩
      · rename_i ht
        have ht : isT 40 d = false := by simpa using ht
        rw [ht]
        exact ⟨Nat.le_refl _, by simp [exFs, D.belL], fun c hc => .inl hc, [], _, by simp [mRaise_ev]; rfl⟩
    · trivial
/-- the parts of a tuple -/
theorem okd_tup {n : Nat} {l : List D} (h : okd n S (.tup l) = true) : l.length ≤ 1000 ∧ okvL S l = true ∧ ∃ m, n = m + 1 ∧ depL l ≤ m := by
  obtain ⟨h1, h2⟩ := okd_inv h
  obtain ⟨h3, h4⟩ := okv_tup h1
  exact ⟨h3, h4, dep_tup h2⟩
def isTupD : D → Bool | .tup _ => true | _ => false
def isStrD : D → Bool | .str _ => true | _ => false
theorem isiT_ok {d : D} (h : okv S d = true) : isiD S "tuple" d = some (isTupD d) := by
  cases d with
  | loc n => obtain ⟨xs, hx⟩ := okv_loc h; rw [isi_loc_tuple hx]; rfl
  | adr _ => cases h
  | lam _ _ _ => cases h
  | cst _ => cases h
  | _ => simp [isTupD]
theorem isiS_ok {d : D} (h : okv S d = true) : isiD S "str" d = some (isStrD d) := by
  cases d with
  | loc n => obtain ⟨xs, hx⟩ := okv_loc h; rw [isi_loc_str hx]; rfl
  | adr _ => cases h
  | lam _ _ _ => cases h
  | cst _ => cases h
  | _ => simp [isStrD]
theorem mIsiT {d : D} {sd : Sl} (h : okv S d = true) (hs : sd[0]? = some (some d)) : mIsi "tuple" (mVar 0) sd S = .ok (.bl (isTupD d)) S := by
  simp only [mIsi_ev, mVar_ev, hs, bind_ok, isiT_ok h]
theorem len_eq {l : List D} {sd : Sl} {j : Int} (hs : sd[0]? = some (some (.tup l))) : (mBin oEq (mB oLenA (mCons (mVar 0) mNil)) (mC (.int j))) sd S = .ok (.bl ((l.length : Int) == j)) S := by
  simp only [mBin_ev, mB_ev, mCons_ev, mVar_ev, hs, bind_ok, mNil_ev, oLenA_tup, mC_ev, oEq_int]
theorem len_ne {l : List D} {sd : Sl} {j : Int} (hs : sd[0]? = some (some (.tup l))) : (mTst (mBin oNe (mB oLenA (mCons (mVar 0) mNil)) (mC (.int j)))) sd S = .ok ((l.length : Int) != j) S := by
  simp only [mTst_ev, mBin_ev, mB_ev, mCons_ev, mVar_ev, hs, bind_ok, mNil_ev, oLenA_tup, mC_ev, oNe_int, blD_bl, optR_some]
theorem ix_at {l : List D} {sd : Sl} {j : Nat} {d : D} (hs : sd[0]? = some (some (.tup l))) (h : l[j]? = some d) : (mBin oIxA (mVar 0) (mC (.int j))) sd S = .ok d S := by
  simp only [mBin_ev, mVar_ev, hs, bind_ok, mC_ev, oIxA_tup, atI_nat', h, optR_some]
theorem nt_false {l : List D} (f : D → D → Bool) : l.length ≠ 2 → (match l with | [a, b] => f a b | _ => false) = false := by
  intro h
  split
  · simp at h
  · rfl
theorem ref_is_input (ds : List D) (S : List Cell) (h : ds.length = 1) : RefR S (m_is_input ds S) (bb_is_input (startD 1 ds) S) := by
  refine ref_p1 (fun d hd => ⟨[], ?_⟩) ds h
  rw [List.append_nil]
  have h0 := mIsiT (sd := startD 1 [d]) hd rfl
  unfold bb_is_input
  cases d with
  | tup l =>
    obtain ⟨_, hv⟩ := okv_tup hd
    match l, hv with
    | [a, b], hv =>
      obtain ⟨va, hv⟩ := okvL_cons hv
      obtain ⟨vb, _⟩ := okvL_cons hv
      exact ret_of (andV_t h0 (andV_t (len_eq rfl) (andV_bl (call1 (ix_at rfl rfl) (p1_ok va)) fun _ => call1 (ix_at (j := 1) rfl rfl) (p1_ok vb))))
    | [], _ => exact ret_of (andV_t h0 (andV_f (len_eq rfl) rfl))
    | [a], _ => exact ret_of (andV_t h0 (andV_f (len_eq rfl) rfl))
    | a :: b :: c :: l, _ => exact ret_of (andV_t h0 (andV_f (len_eq rfl) (by simp; omega)))
  | _ => exact ret_of (andV_f h0 rfl)
theorem ref_is_named_term (ds : List D) (S : List Cell) (h : ds.length = 1) : RefR S (m_is_named_term ds S) (bb_is_named_term (startD 1 ds) S) := by
  refine ref_p1 (fun d hd => ⟨[], ?_⟩) ds h
  rw [List.append_nil]
  obtain ⟨hv, hdp⟩ := okd_inv hd
  have h0 := mIsiT (sd := startD 1 [d]) hv rfl
  unfold bb_is_named_term
  cases d with
  | tup l =>
    obtain ⟨_, hv⟩ := okv_tup hv
    obtain ⟨m, hm, hdl⟩ := dep_tup hdp
    match l, hv, hdl with
    | [a, b], hv, hdl =>
      obtain ⟨va, hv⟩ := okvL_cons hv
      obtain ⟨vb, _⟩ := okvL_cons hv
      obtain ⟨_, hdl⟩ := depL_cons hdl
      obtain ⟨db, _⟩ := depL_cons hdl
      exact ret_of (andV_t h0 (andV_t (len_eq rfl) (andV_bl (call1 (ix_at rfl rfl) (p1_ok va)) fun _ => call1 (ix_at (j := 1) rfl rfl) (p1_ok (okd_of vb (by omega))))))
    | [], _, _ => exact ret_of (andV_t h0 (andV_f (len_eq rfl) rfl))
    | [a], _, _ => exact ret_of (andV_t h0 (andV_f (len_eq rfl) rfl))
    | a :: b :: c :: l, _, _ => exact ret_of (andV_t h0 (andV_f (len_eq rfl) (by simp; omega)))
  | _ => exact ret_of (andV_f h0 rfl)
theorem ref_is_register (ds : List D) (S : List Cell) (h : ds.length = 1) : RefR S (m_is_register ds S) (bb_is_register (startD 1 ds) S) := by
  refine ref_p1 (fun d hd => ⟨[], ?_⟩) ds h
  rw [List.append_nil]
  obtain ⟨hv, hdp⟩ := okd_inv hd
  have h0 := mIsiT (sd := startD 1 [d]) hv rfl
  have hst : (startD 1 [d])[0]? = some (some d) := rfl
  generalize startD 1 [d] = sd at h0 hst
  unfold bb_is_register
  cases d with
  | tup l =>
    obtain ⟨hlen, hv⟩ := okv_tup hv
    obtain ⟨m, hm, hdl⟩ := dep_tup hdp
    have n0 : (mNot (mTru (mIsi "tuple" (mVar 0)))) sd S = .ok false S := by
      simp only [mNot_ev, mTru_ev, h0, isTupD, bind_ok, truD_bl, optR_some, Bool.not_true]
    by_cases h5 : l.length = 5
    · match l, h5, hv, hdl with
      | [a, b, c, t, u], _, hv, hdl =>
        obtain ⟨va, hv⟩ := okvL_cons hv
        obtain ⟨vb, hv⟩ := okvL_cons hv
        obtain ⟨vc, hv⟩ := okvL_cons hv
        obtain ⟨vt, hv⟩ := okvL_cons hv
        obtain ⟨vu, _⟩ := okvL_cons hv
        obtain ⟨_, hdl⟩ := depL_cons hdl
        obtain ⟨_, hdl⟩ := depL_cons hdl
        obtain ⟨_, hdl⟩ := depL_cons hdl
        obtain ⟨dt, hdl⟩ := depL_cons hdl
        obtain ⟨du, _⟩ := depL_cons hdl
        have v2 : okv S (.tup [a, b]) = true := by
          rw [okv, okvL, okvL, okvL, va, vb]
          rfl
        have ein : (mCall m_is_input (mCons (mSlice (mVar 0) mNoPart (mPart (mC (.int 2)))) mNil)) sd S = .ok (.bl (isInput (.tup [a, b]))) S := by
          refine call1 (d := .tup [a, b]) ?_ (p1_ok v2)
          simp only [mSlice_ev, mVar_ev, hst, bind_ok, mNoPart_ev, mPart_ev, mC_ev, intD_int]
          rfl
        refine seq_if (p := !(isInput (.tup [a, b]) && isWord (intOf b).toNat c)) ?_ ?_ ?_
        · simp only [mOr_ev, n0, bind_ok, Bool.false_eq_true, if_false, len_ne hst, show ((([a, b, c, t, u] : List D).length : Int) != 5) = false from rfl, mNot_ev, mTru_ev, ein, truD_bl, optR_some]
          cases hi : isInput (.tup [a, b]) with
          | false => simp
          | true =>
            have hw : isWidth b = true := by
              have : (isName a && isWidth b) = true := hi
              rw [Bool.and_eq_true] at this
              exact this.2
            obtain ⟨i, rfl, i1, i2⟩ := width_int hw
            have ew : (mCall m_is_word (mCons (mBin oIxA (mVar 0) (mC (.int 2))) (mCons (mBin oIxA (mVar 0) (mC (.int 1))) mNil))) sd S = .ok (.bl (isWord i.toNat c)) S := by
              refine call2 (ix_at (j := 2) hst rfl) (ix_at (j := 1) hst rfl) ?_
              unfold m_is_word
              simp only [vc, true_and]
              rw [if_pos (by omega)]
            simp only [ew, bind_ok, truD_bl, optR_some, Bool.not_true, Bool.false_eq_true, if_false, Bool.true_and]
            rfl
        · intro hp
          have hp : (isInput (.tup [a, b]) && isWord (intOf b).toNat c) = false := by rwa [Bool.not_eq_true'] at hp
          have : isRegister (.tup [a, b, c, t, u]) = false := by
            show (isInput (.tup [a, b]) && isWord (intOf b).toNat c && isT 40 t && (isNonD u || isT 40 u)) = false
            rw [hp]; rfl
          rw [this]
          exact ret_of rfl
        · intro hp
          have hp : (isInput (.tup [a, b]) && isWord (intOf b).toNat c) = true := by rwa [Bool.not_eq_false'] at hp
          have : isRegister (.tup [a, b, c, t, u]) = (isT 40 t && (isNonD u || isT 40 u)) := by
            show (isInput (.tup [a, b]) && isWord (intOf b).toNat c && isT 40 t && (isNonD u || isT 40 u)) = _
            rw [hp]; simp
          rw [this]
          refine ret_of (andV_bl (call1 (ix_at (j := 3) hst rfl) (p1_ok (okd_of vt (by omega)))) fun _ => ?_)
          have i4 := ix_at (S := S) (j := 4) hst rfl
          have i4 : (mBin oIxA (mVar 0) (mC (.int 4))) sd S = .ok u S := i4
          have e4 : (mBin oIsN (mBin oIxA (mVar 0) (mC (.int 4))) (mC .non)) sd S = .ok (.bl (isNonD u)) S := by
            rw [mBin_ev, i4]
            simp only [bind_ok, mC_ev, oIsN_non]
          have et : (mCall (m_is_term 40) (mCons (mBin oIxA (mVar 0) (mC (.int 4))) mNil)) sd S = .ok (.bl (isT 40 u)) S := call1 i4 (p1_ok (okd_of vu (by omega)))
          simp only [mOrV_ev, e4, bind_ok, truD_bl, et]
          cases isNonD u <;> simp
    · have hf : isRegister (.tup l) = false := by
        unfold isRegister
        split
        · rename_i heq
          cases heq
          exact absurd rfl h5
        · rfl
      rw [hf]
      refine seq_if (p := true) ?_ ?_ ?_
      · simp only [mOr_ev, n0, bind_ok, Bool.false_eq_true, if_false, len_ne hst, show ((l.length : Int) != 5) = true from by simp; omega, if_true]
      · intro _; rfl
      · intro h; cases h
  | _ =>
    refine seq_if (p := true) ?_ ?_ ?_
    · simp only [mOr_ev, mNot_ev, mTru_ev, h0, isTupD, bind_ok, truD_bl, optR_some, Bool.not_false, if_true]
    · intro _; rfl
    · intro h; cases h
end
end Fx

namespace Fx
open PySem PySem.Spec PyProof.Rows L2
/-! ### rows of a chip -/
def rowNm : D → List Nat | .tup (.str x :: _) => x | _ => []
def rowsGo (R : D → Bool) : Nat → List D → List (Key × D) → Option Nat × List (Key × D)
  | _, [], kvs => (none, kvs)
  | k, r :: rs, kvs => if R r = true ∧ (getK kvs (.inr (stS (rowNm r)))).isSome = false then rowsGo R (k + 1) rs (putKD kvs (.inr (stS (rowNm r))) (.bl true)) else (some k, kvs)
def isBlD : D → Bool | .bl _ => true | _ => false
def blkv (kvs : List (Key × D)) : Bool := kvs.all fun kv => isBlD kv.2
def chipX (kind : List Nat) (d : D) : Ex := ⟨"InvalidChip", exFs ns_InvalidChip (.tup [.str kind, d])⟩
def m_check_rows (ok : List Cell → D → Bool) (R : D → Bool) (fa : Addr) : List D → List Cell → Res D := fun ds S => match ds with
  | [.str kind, rows, .adr a, .loc n] => if a = fa then (match S[n]? with
    | some (.dic kvs) => (match rows with
      | .tup rs => if rs.length ≤ 1000 ∧ rs.all (ok S) = true ∧ kvs.length ≤ 10000 ∧ blkv kvs = true then
          (match rowsGo R 0 rs kvs with
          | (none, kvs') => .ok .non (S.set n (.dic kvs'))
          | (some k, kvs') => .exc (chipX kind (.int (k : Nat))) (S.set n (.dic kvs')))
        else .stk
      | d => if okv S d = true then .exc (chipX kind .non) S else .stk)
    | _ => .stk) else .stk
  | _ => .stk
noncomputable abbrev bb_check_rows (fa_is_right : Addr) (l_is_right : List D → List Cell → Res D) : MS := (mSeq (mIf (mNot (mTru (mIsi "tuple" (mVar 1))))
  (mRaise "InvalidChip" ns_InvalidChip (mTup (mCons (mVar 0) (mCons (mC .non) mNil))))
  mNext)
  (mFor (mRng1 (mCons (mB oLenA (mCons (mVar 1) mNil)) mNil)) (gN 4)
  (mSeq (mIf (mOr (mNot (mTru (mAdr 2 fa_is_right l_is_right (mCons (mBin oIxA (mVar 1) (mVar 4)) mNil)))) (mTst (mBin oInA (mBin oIxA (mBin oIxA (mVar 1) (mVar 4)) (mC (.int 0))) (mVar 3))))
    (mRaise "InvalidChip" ns_InvalidChip (mTup (mCons (mVar 0) (mCons (mVar 4) mNil))))
    mNext)
    (mAsg (gSubA (mVar 3) (mBin oIxA (mBin oIxA (mVar 1) (mVar 4)) (mC (.int 0)))) (mC (.bl true))))))
section
variable {S : List Cell}
theorem dicD_loc {n : Nat} {kvs : List (Key × D)} (h : S[n]? = some (.dic kvs)) : dicD S (.loc n) = some (n, kvs) := by
  unfold dicD
  simp only [h]
theorem oInA_dic {n : Nat} {kvs : List (Key × D)} {x : List Nat} (h : S[n]? = some (.dic kvs)) : oInA (.str x) (.loc n) S = .ok (.bl (getK kvs (.inr (stS x))).isSome) S := by
  unfold oInA
  rw [dicD_loc h]
  rfl
theorem setD_dic {n : Nat} {kvs : List (Key × D)} {x : List Nat} {v : D} (h : S[n]? = some (.dic kvs)) (hz : kvs.length < sizeLine) : setD (.loc n) (.str x) v S = some (S.set n (.dic (putKD kvs (.inr (stS x)) v))) := by
  unfold setD
  rw [dicD_loc h]
  simp only [keyD, hz, if_true]
theorem cellL_set {n m : Nat} {kvs kvs' : List (Key × D)} (h : S[n]? = some (.dic kvs)) : cellL (S.set n (.dic kvs')) m = cellL S m := by
  have hl := (List.getElem?_eq_some_iff.mp h).1
  by_cases hm : n = m
  · subst hm
    have hg : S[n] = .dic kvs := by
      have := h
      rw [List.getElem?_eq_getElem hl] at this
      exact Option.some.inj this
    simp [hl, hg]
  · simp [List.getElem?_set_ne hm]
mutual
theorem okv_set {n : Nat} {kvs kvs' : List (Key × D)} (h : S[n]? = some (.dic kvs)) : ∀ d : D, okv (S.set n (.dic kvs')) d = okv S d
  | .non => rfl
  | .bl _ => rfl
  | .int _ => rfl
  | .str _ => rfl
  | .tup l => by rw [okv, okv, okvL_set h l]
  | .loc m => by rw [okv, okv, cellL_set h]
  | .cst _ => rfl
  | .adr _ => rfl
  | .lam _ _ _ => rfl
theorem okvL_set {n : Nat} {kvs kvs' : List (Key × D)} (h : S[n]? = some (.dic kvs)) : ∀ l : List D, okvL (S.set n (.dic kvs')) l = okvL S l
  | [] => rfl
  | d :: l => by rw [okvL, okvL, okv_set h d, okvL_set h l]
end
theorem okd_set {k n : Nat} {kvs kvs' : List (Key × D)} (h : S[n]? = some (.dic kvs)) (d : D) : okd k (S.set n (.dic kvs')) d = okd k S d := by
  unfold okd
  rw [okv_set h]
theorem putKD_len (kvs : List (Key × D)) (k : Key) (v : D) : (putKD kvs k v).length ≤ kvs.length + 1 := by
  unfold putKD
  split <;> simp
theorem blkv_put {kvs : List (Key × D)} {k : Key} {b : Bool} (h : blkv kvs = true) : blkv (putKD kvs k (.bl b)) = true := by
  unfold blkv at h ⊢
  unfold putKD
  rw [List.all_eq_true] at h ⊢
  split
  · intro x hx
    obtain ⟨y, hy, rfl⟩ := List.mem_map.mp hx
    split
    · rfl
    · exact h y hy
  · intro x hx
    rcases List.mem_append.mp hx with hx | hx
    · exact h x hx
    · rw [List.mem_singleton] at hx
      subst hx
      rfl
theorem blkv_go {R : D → Bool} : ∀ (rs : List D) (k : Nat) (kvs : List (Key × D)), blkv kvs = true → blkv (rowsGo R k rs kvs).2 = true
  | [], _, _, h => h
  | r :: rs, k, kvs, h => by
    unfold rowsGo
    split
    · exact blkv_go rs _ _ (blkv_put h)
    · exact h
theorem blkv_bel {n : Nat} {kvs : List (Key × D)} (h : blkv kvs = true) : (Cell.dic kvs).bel n := by
  show D.belL n (kvs.map (·.2))
  induction kvs with
  | nil => trivial
  | cons kv kvs ih =>
    have h : (isBlD kv.2 && blkv kvs) = true := h
    rw [Bool.and_eq_true] at h
    refine ⟨?_, ih h.2⟩
    have h1 := h.1
    show D.bel n kv.2
    generalize kv.2 = z at h1
    cases z with
    | bl b => simp
    | _ => cases h1
/-- what is asked of a row's own judge -/
structure RowsOk (ok : List Cell → D → Bool) (R : D → Bool) : Prop where
  set : ∀ {S : List Cell} {n : Nat} {kvs kvs' : List (Key × D)}, S[n]? = some (.dic kvs) → ∀ d, ok (S.set n (.dic kvs')) d = ok S d
  nm : ∀ d, R d = true → ∃ x l, d = .tup (.str x :: l)
def lp5 (kind : List Nat) (all : List D) (fa : Addr) (n : Nat) (x : Option D) : Sl := [some (.str kind), some (.tup all), some (.adr fa), some (.loc n), x]
theorem rows_loop {ok : List Cell → D → Bool} {R : D → Bool} (O : RowsOk ok R) {fa : Addr} {kind : List Nat} {all : List D} {n : Nat} {B : MS} (hL : all.length ≤ 1000)
    (step : ∀ (k : Nat) (r : D) (kvs : List (Key × D)) (S : List Cell), all[k]? = some r → ok S r = true → S[n]? = some (.dic kvs) → kvs.length ≤ 20000 →
      B (lp5 kind all fa n (some (.int (k : Nat)))) S = if R r = true ∧ (getK kvs (.inr (stS (rowNm r)))).isSome = false then .nx (lp5 kind all fa n (some (.int (k : Nat)))) (S.set n (.dic (putKD kvs (.inr (stS (rowNm r))) (.bl true)))) else .exc (chipX kind (.int (k : Nat))) (lp5 kind all fa n (some (.int (k : Nat)))) S) :
    ∀ (m k : Nat) (rs : List D) (kvs : List (Key × D)) (x4 : Option D) (S : List Cell), all.drop k = rs → k + m = all.length → rs.all (ok S) = true → S[n]? = some (.dic kvs) →
    kvs.length + m ≤ 20000 → ∃ x4', forGo ⟨rngD 0 all.length, none⟩ (gN 4) B ((rngD 0 all.length).drop k) (lp5 kind all fa n x4) S = match rowsGo R k rs kvs with
        | (none, kvs') => .nx (lp5 kind all fa n x4') (S.set n (.dic kvs'))
        | (some j, kvs') => .exc (chipX kind (.int (j : Nat))) (lp5 kind all fa n x4') (S.set n (.dic kvs'))
  | 0, k, rs, kvs, x4, S, hd, hk, _, hS, _ => by
    have : (rngD 0 all.length).drop k = [] := List.drop_of_length_le (by rw [rngD_length]; omega)
    rw [this]
    have : rs = [] := by rw [← hd]; exact List.drop_of_length_le (by omega)
    subst this
    refine ⟨x4, ?_⟩
    obtain ⟨hl, he⟩ := (List.getElem?_eq_some_iff.mp hS)
    have e : S.set n (.dic kvs) = S := by rw [← he]; simp
    simp [forGo, ItD.okAt, rowsGo, e]
  | m + 1, k, rs, kvs, x4, S, hd, hk, hok, hS, hz => by
    have hlt : k < all.length := by omega
    rw [rngD_drop 0 _ k hlt]
    rw [List.drop_eq_getElem_cons hlt] at hd
    subst hd
    obtain ⟨hr, hrs⟩ : ok S all[k] = true ∧ (all.drop (k + 1)).all (ok S) = true := by
      rw [List.all_cons, Bool.and_eq_true] at hok
      exact hok
    have eg : all[k]? = some all[k] := by simp [hlt]
    generalize hrr : all[k] = r at hr eg
    have okit : (⟨rngD 0 all.length, none⟩ : ItD).okAt S := trivial
    have st := step k r kvs S eg hr hS (by omega)
    have eset : (lp5 kind all fa n x4).set 4 (some (.int (0 + (k : Nat)))) = lp5 kind all fa n (some (.int (k : Nat))) := by
      rw [Int.zero_add]; rfl
    unfold forGo
    rw [if_pos okit]
    simp only [gN_ev, eset, st]
    unfold rowsGo
    by_cases hc : R r = true ∧ (getK kvs (.inr (stS (rowNm r)))).isSome = false
    · simp only [if_pos hc]
      have hl := (List.getElem?_eq_some_iff.mp hS).1
      have hrs' : (all.drop (k + 1)).all (ok (S.set n (.dic (putKD kvs (.inr (stS (rowNm r))) (.bl true))))) = true := by
        rw [List.all_eq_true] at hrs ⊢
        intro x hx
        rw [O.set hS]
        exact hrs x hx
      have hlen := putKD_len kvs (.inr (stS (rowNm r))) (.bl true)
      obtain ⟨x4', e⟩ := rows_loop O hL step m (k + 1) _ (putKD kvs (.inr (stS (rowNm r))) (.bl true)) (some (.int (k : Nat))) (S.set n (.dic (putKD kvs (.inr (stS (rowNm r))) (.bl true)))) rfl (by omega) hrs' (by simp [hl]) (by omega)
      refine ⟨x4', ?_⟩
      rw [e]
      simp only [List.set_set]
    · simp only [if_neg hc]
      refine ⟨some (.int (k : Nat)), ?_⟩
      obtain ⟨hl, he⟩ := (List.getElem?_eq_some_iff.mp hS)
      have e : S.set n (.dic kvs) = S := by rw [← he]; simp
      rw [e]
theorem ref_check_rows {ok : List Cell → D → Bool} {R : D → Bool} (O : RowsOk ok R) (fa : Addr) (ds : List D) (S : List Cell) (h : ds.length = 4) : RefR S (m_check_rows ok R fa ds S) (bb_check_rows fa (pure1 ok R) (startD 5 ds) S) := by
  unfold m_check_rows
  split
  · rename_i kind rows a n
    split
    · rename_i hfa
      subst hfa
      split
      · rename_i kvs hS
        have hl := (List.getElem?_eq_some_iff.mp hS).1
        have hst : startD 5 [D.str kind, rows, .adr a, .loc n] = [some (.str kind), some rows, some (.adr a), some (.loc n), none] := rfl
        rw [hst]
        have hbelX : ∀ (m : Nat) (d : D), d.bel m → D.belL m ((chipX kind d).fs.map (·.2)) := fun m d hd => by simp [chipX, exFs, D.belL, hd]
        split
        · rename_i rs
          split
          · rename_i hc
            obtain ⟨h1, h2, h3, h4⟩ := hc
            have iT : (mNot (mTru (mIsi "tuple" (mVar 1)))) [some (.str kind), some (.tup rs), some (.adr a), some (.loc n), none] S = .ok false S := by simp
            have hb := blkv_go (R := R) rs 0 kvs h4
            have hc62 : c62 (rs.length : Int) = true := by unfold c62; simp; omega
            have step : ∀ (k : Nat) (r : D) (kvs : List (Key × D)) (S : List Cell), rs[k]? = some r → ok S r = true → S[n]? = some (.dic kvs) → kvs.length ≤ 20000 →
                (mSeq (mIf (mOr (mNot (mTru (mAdr 2 a (pure1 ok R) (mCons (mBin oIxA (mVar 1) (mVar 4)) mNil)))) (mTst (mBin oInA (mBin oIxA (mBin oIxA (mVar 1) (mVar 4)) (mC (.int 0))) (mVar 3))))
                  (mRaise "InvalidChip" ns_InvalidChip (mTup (mCons (mVar 0) (mCons (mVar 4) mNil)))) mNext)
                  (mAsg (gSubA (mVar 3) (mBin oIxA (mBin oIxA (mVar 1) (mVar 4)) (mC (.int 0)))) (mC (.bl true)))) (lp5 kind rs a n (some (.int (k : Nat)))) S =
                if R r = true ∧ (getK kvs (.inr (stS (rowNm r)))).isSome = false then .nx (lp5 kind rs a n (some (.int (k : Nat)))) (S.set n (.dic (putKD kvs (.inr (stS (rowNm r))) (.bl true)))) else .exc (chipX kind (.int (k : Nat))) (lp5 kind rs a n (some (.int (k : Nat)))) S := by
              intro k r kvs S eg hr hS hz
              have eI : (mBin oIxA (mVar 1) (mVar 4)) (lp5 kind rs a n (some (.int (k : Nat)))) S = .ok r S := by
                simp only [lp5, mBin_ev, mVar_ev, List.getElem?_cons_succ, List.getElem?_cons_zero, bind_ok, oIxA_tup, atI_nat', eg, optR_some]
              have eA : (mAdr 2 a (pure1 ok R) (mCons (mBin oIxA (mVar 1) (mVar 4)) mNil)) (lp5 kind rs a n (some (.int (k : Nat)))) S = .ok (.bl (R r)) S := by
                have : (mCons (mBin oIxA (mVar 1) (mVar 4)) mNil) (lp5 kind rs a n (some (.int (k : Nat)))) S = .ok [r] S := by simp only [mCons_ev, eI, bind_ok, mNil_ev]
                unfold mAdr
                rw [this]
                simp only [lp5, List.getElem?_cons_succ, List.getElem?_cons_zero, if_true, bind_ok]
                exact p1_ok hr
              have eX : (mRaise "InvalidChip" ns_InvalidChip (mTup (mCons (mVar 0) (mCons (mVar 4) mNil)))) (lp5 kind rs a n (some (.int (k : Nat)))) S = .exc (chipX kind (.int (k : Nat))) (lp5 kind rs a n (some (.int (k : Nat)))) S := by
                have : 2 ≤ sizeLine := line_le (by omega)
                simp [mRaise_ev, chipX, lp5, this]
              have e3 : (mVar 3) (lp5 kind rs a n (some (.int (k : Nat)))) S = .ok (.loc n) S := rfl
              cases hR : R r with
              | false => simp only [mSeq_ev, mIf_ev, mOr_ev, mNot_ev, mTru_ev, eA, hR, bind_ok, truD_bl, optR_some, Bool.not_false, if_true, thenS_ok, eX, Bool.false_eq_true, false_and, if_false]
              | true =>
                obtain ⟨x, l, rfl⟩ := O.nm r hR
                have eN : (mBin oIxA (mBin oIxA (mVar 1) (mVar 4)) (mC (.int 0))) (lp5 kind rs a n (some (.int (k : Nat)))) S = .ok (.str x) S := by
                  rw [mBin_ev, eI]
                  simp only [bind_ok, mC_ev, oIxA_tup, atI_zero, List.getElem?_cons_zero, optR_some]
                have eIn : (mTst (mBin oInA (mBin oIxA (mBin oIxA (mVar 1) (mVar 4)) (mC (.int 0))) (mVar 3))) (lp5 kind rs a n (some (.int (k : Nat)))) S = .ok (getK kvs (.inr (stS x))).isSome S := by
                  rw [mTst_ev, mBin_ev, eN]
                  simp only [bind_ok, e3, oInA_dic hS, blD_bl, optR_some]
                show _ = if true = true ∧ (getK kvs (.inr (stS x))).isSome = false then _ else _
                simp only [true_and]
                cases hg : (getK kvs (.inr (stS x))).isSome with
                | true => simp only [mSeq_ev, mIf_ev, mOr_ev, mNot_ev, mTru_ev, eA, hR, bind_ok, truD_bl, optR_some, Bool.not_true, Bool.false_eq_true, if_false, eIn, hg, thenS_ok, if_true, eX]; rfl
                | false =>
                  have hz' : kvs.length < sizeLine := by have : kvs.length + 1 ≤ sizeLine := line_le (by omega); omega
                  simp only [mSeq_ev, mIf_ev, mOr_ev, mNot_ev, mTru_ev, eA, hR, bind_ok, truD_bl, optR_some, Bool.not_true, Bool.false_eq_true, if_false, eIn, hg, thenS_ok, mNext_ev, mAsg_ev, mC_ev, gSubA_ev, e3, eN, setD_dic hS hz', if_true]
                  rfl
            obtain ⟨x4', e⟩ := rows_loop O h1 step rs.length 0 rs kvs none S rfl (by omega) h2 hS (by omega)
            have hev : ∀ r, (match rowsGo R 0 rs kvs with
                | (none, kvs') => ResS.nx (lp5 kind rs a n x4') (S.set n (.dic kvs'))
                | (some j, kvs') => .exc (chipX kind (.int (j : Nat))) (lp5 kind rs a n x4') (S.set n (.dic kvs'))) = r → bb_check_rows a (pure1 ok R) [some (.str kind), some (.tup rs), some (.adr a), some (.loc n), none] S = r := by
              intro r hr
              rw [← hr, ← e]
              unfold bb_check_rows
              simp only [mSeq_ev, mIf_ev, iT, thenS_ok, Bool.false_eq_true, if_false, mNext_ev, mFor_ev, mRng1_ev, mCons_ev, mB_ev, mVar_ev, List.getElem?_cons_succ, List.getElem?_cons_zero, bind_ok, mNil_ev, oLenA_tup, hc62, if_true, Int.toNat_natCast]
              rfl
            split
            · rename_i kvs' hgo
              rw [hgo] at hev hb
              rw [hev _ rfl]
              refine ⟨by simp, by simp, fun c hc => ?_, [], .inr ⟨rfl, _, by rw [List.append_nil]⟩⟩
              rcases List.mem_or_eq_of_mem_set hc with hc | rfl
              · exact .inl hc
              · exact .inr (blkv_bel hb)
            · rename_i j kvs' hgo
              rw [hgo] at hev hb
              rw [hev _ rfl]
              refine ⟨by simp, hbelX _ _ (by simp), fun c hc => ?_, [], _, by rw [List.append_nil]⟩
              rcases List.mem_or_eq_of_mem_set hc with hc | rfl
              · exact .inl hc
              · exact .inr (blkv_bel hb)
          · trivial
        · rename_i d hnt
          split
          · rename_i hv
            have hT : isTupD rows = false := by
              cases rows with
              | tup l => exact absurd rfl (hnt l)
              | _ => rfl
            have iT : (mNot (mTru (mIsi "tuple" (mVar 1)))) [some (.str kind), some rows, some (.adr a), some (.loc n), none] S = .ok true S := by
              simp only [mNot_ev, mTru_ev, mIsi_ev, mVar_ev, List.getElem?_cons_succ, List.getElem?_cons_zero, bind_ok, isiT_ok hv, hT, truD_bl, optR_some, Bool.not_false]
            have h2 : 2 ≤ sizeLine := line_le (by omega)
            refine ⟨Nat.le_refl _, hbelX _ _ (by simp), fun c hc => .inl hc, [], [some (.str kind), some rows, some (.adr a), some (.loc n), none], ?_⟩
            rw [List.append_nil]
            unfold bb_check_rows
            simp only [mSeq_ev, mIf_ev, iT, thenS_ok, if_true]
            simp [mRaise_ev, chipX, h2]
          · trivial
      · trivial
    · trivial
  · trivial
theorem name_str {d : D} (h : isName d = true) : ∃ x, d = .str x := by
  cases d with
  | str x => exact ⟨x, rfl⟩
  | _ => cases h
theorem O_input : RowsOk okv isInput := ⟨fun h d => okv_set h d, fun d hd => by
  unfold isInput at hd
  split at hd
  · rename_i a b
    rw [Bool.and_eq_true] at hd
    obtain ⟨x, rfl⟩ := name_str hd.1
    exact ⟨x, _, rfl⟩
  · cases hd⟩
theorem O_register : RowsOk (okd 40) isRegister := ⟨fun h d => okd_set h d, fun d hd => by
  unfold isRegister at hd
  split at hd
  · simp only [Bool.and_eq_true] at hd
    obtain ⟨x, rfl⟩ := name_str hd.1.1.1.1
    exact ⟨x, _, rfl⟩
  · cases hd⟩
theorem O_named : RowsOk (okd 40) isNamed := ⟨fun h d => okd_set h d, fun d hd => by
  unfold isNamed at hd
  split at hd
  · rw [Bool.and_eq_true] at hd
    obtain ⟨x, rfl⟩ := name_str hd.1
    exact ⟨x, _, rfl⟩
  · cases hd⟩
end
end Fx

namespace Fx
open PySem PySem.Spec PyProof.Rows L2
noncomputable abbrev bb_Chip_init (fa_is_input : Addr) (fa_is_register : Addr) (fa_is_named_term : Addr) : MS := (mSeq (mIf (mNot (mTru (mCall m_is_name (mCons (mVar 1) mNil))))
  (mRaise "InvalidChip" ns_InvalidChip (mTup (mCons (mC (.str (cs "chip"))) (mCons (mC (.int 0)) mNil))))
  mNext)
  (mSeq (mSet 6 mDict0)
  (mSeq (mExpr (mCall (m_check_rows okv isInput fa_is_input) (mCons (mC (.str (cs "in"))) (mCons (mVar 2) (mCons (mC (.adr fa_is_input)) (mCons (mVar 6) mNil))))))
  (mSeq (mExpr (mCall (m_check_rows (okd 40) isRegister fa_is_register) (mCons (mC (.str (cs "reg"))) (mCons (mVar 3) (mCons (mC (.adr fa_is_register)) (mCons (mVar 6) mNil))))))
  (mSeq (mExpr (mCall (m_check_rows (okd 40) isNamed fa_is_named_term) (mCons (mC (.str (cs "wire"))) (mCons (mVar 4) (mCons (mC (.adr fa_is_named_term)) (mCons (mVar 6) mNil))))))
  (mSeq (mExpr (mCall (m_check_rows (okd 40) isNamed fa_is_named_term) (mCons (mC (.str (cs "out"))) (mCons (mVar 5) (mCons (mC (.adr fa_is_named_term)) (mCons mDict0 mNil))))))
  (mSeq (mSetF ["Chip"] "name" (mVar 0) (mVar 1))
  (mSeq (mSetF ["Chip"] "inputs" (mVar 0) (mVar 2))
  (mSeq (mSetF ["Chip"] "registers" (mVar 0) (mVar 3))
  (mSeq (mSetF ["Chip"] "wires" (mVar 0) (mVar 4))
  (mSetF ["Chip"] "outputs" (mVar 0) (mVar 5))))))))))))
end Fx

namespace Fx
open PySem PySem.Spec PyProof.Rows L2
/-! ### making a chip -/
def chipP (d : D) : Ex := ⟨"InvalidChip", exFs ns_InvalidChip d⟩
def rowsE (R : D → Bool) (kind : List Nat) (rows : D) (kvs : List (Key × D)) : Option D × List (Key × D) := match rows with
  | .tup rs => (((rowsGo R 0 rs kvs).1.map fun (j : Nat) => .tup [.str kind, .int (j : Int)]), (rowsGo R 0 rs kvs).2)
  | _ => (some (.tup [.str kind, .non]), kvs)
def chipE (nm i r w o : D) : Option D :=
  if isName nm = false then some (.tup [.str (cs "chip"), .int 0]) else
  match (rowsE isInput (cs "in") i []).1 with
  | some p => some p
  | none => match (rowsE isRegister (cs "reg") r (rowsE isInput (cs "in") i []).2).1 with
    | some p => some p
    | none => match (rowsE isNamed (cs "wire") w (rowsE isRegister (cs "reg") r (rowsE isInput (cs "in") i []).2).2).1 with
      | some p => some p
      | none => (rowsE isNamed (cs "out") o []).1
def m_Chip : List D → List Cell → Res D := fun ds S => match ds with
  | [.loc s, nm, i, r, w, o] => match S[s]? with
    | some (.ins "Chip" []) => if okv S nm = true ∧ okd 41 S i = true ∧ okd 41 S r = true ∧ okd 41 S w = true ∧ okd 41 S o = true then
        (match chipE nm i r w o with
        | some p => .exc (chipP p) S
        | none => .ok .non (S.set s (.ins "Chip" [("name", nm), ("inputs", i), ("registers", r), ("wires", w), ("outputs", o)])))
      else .stk
    | _ => .stk
  | _ => .stk
section
variable {S : List Cell}
theorem cellL_app {n : Nat} {T : List Cell} {xs : List D} (h : cellL S n = some xs) : cellL (S ++ T) n = some xs := by
  have h' := cellL_get h
  have hl := (List.getElem?_eq_some_iff.mp h').1
  simp [List.getElem?_append_left hl, h']
mutual
theorem okv_app {T : List Cell} : ∀ {d : D}, okv S d = true → okv (S ++ T) d = true
  | .non, _ => rfl
  | .bl _, _ => rfl
  | .int _, _ => rfl
  | .str _, h => h
  | .tup l, h => by
    rw [okv, Bool.and_eq_true] at h ⊢
    exact ⟨h.1, okvL_app h.2⟩
  | .loc m, h => by
    obtain ⟨xs, hx⟩ := okv_loc h
    rw [okv, cellL_app hx]
    rfl
  | .cst _, h => by cases h
  | .adr _, h => by cases h
  | .lam _ _ _, h => by cases h
theorem okvL_app {T : List Cell} : ∀ {l : List D}, okvL S l = true → okvL (S ++ T) l = true
  | [], _ => rfl
  | d :: l, h => by
    rw [okvL, Bool.and_eq_true] at h ⊢
    exact ⟨okv_app h.1, okvL_app h.2⟩
end
theorem okd_app {n : Nat} {T : List Cell} {d : D} (h : okd n S d = true) : okd n (S ++ T) d = true := by
  obtain ⟨h1, h2⟩ := okd_inv h
  exact okd_of (okv_app h1) h2
mutual
theorem okv_bel : ∀ {d : D}, okv S d = true → d.bel S.length
  | .non, _ => by simp
  | .bl _, _ => by simp
  | .int _, _ => by simp
  | .str _, h => by simp
  | .tup l, h => by
    rw [okv, Bool.and_eq_true] at h
    rw [bel_tup]
    exact okvL_bel h.2
  | .loc m, h => by
    obtain ⟨xs, hx⟩ := okv_loc h
    rw [bel_loc]
    exact (List.getElem?_eq_some_iff.mp (cellL_get hx)).1
  | .cst _, h => by cases h
  | .adr _, h => by cases h
  | .lam _ _ _, h => by cases h
theorem okvL_bel : ∀ {l : List D}, okvL S l = true → D.belL S.length l
  | [], _ => trivial
  | d :: l, h => by
    rw [okvL, Bool.and_eq_true] at h
    exact ⟨okv_bel h.1, okvL_bel h.2⟩
end
theorem rowsGo_len {R : D → Bool} : ∀ (rs : List D) (k : Nat) (kvs : List (Key × D)), (rowsGo R k rs kvs).2.length ≤ kvs.length + rs.length
  | [], _, _ => by simp [rowsGo]
  | r :: rs, k, kvs => by
    unfold rowsGo
    split
    · have h1 := rowsGo_len (R := R) rs (k + 1) (putKD kvs (.inr (stS (rowNm r))) (.bl true))
      have h2 := putKD_len kvs (.inr (stS (rowNm r))) (.bl true)
      simp only [List.length_cons]
      omega
    · simp
theorem rowsE_ok {R : D → Bool} {kind : List Nat} {rows : D} {kvs : List (Key × D)} (hb : blkv kvs = true) (hv : okv S rows = true) : blkv (rowsE R kind rows kvs).2 = true ∧ (rowsE R kind rows kvs).2.length ≤ kvs.length + 1000 := by
  unfold rowsE
  split
  · rename_i rs
    have := rowsGo_len (R := R) rs 0 kvs
    have h2 := (okv_tup hv).1
    exact ⟨blkv_go rs 0 kvs hb, by show (rowsGo R 0 rs kvs).2.length ≤ _; omega⟩
  · exact ⟨hb, by show kvs.length ≤ _; omega⟩
theorem chk_ev {ok : List Cell → D → Bool} {R : D → Bool} {fa : Addr} {kind : List Nat} {rows : D} {n : Nat} {kvs : List (Key × D)} (hok : ∀ x, okd 40 S x = true → ok S x = true) (hS : S[n]? = some (.dic kvs)) (hb : blkv kvs = true) (hz : kvs.length ≤ 10000) (hv : okd 41 S rows = true) :
    m_check_rows ok R fa [.str kind, rows, .adr fa, .loc n] S = match (rowsE R kind rows kvs).1 with
      | none => .ok .non (S.set n (.dic (rowsE R kind rows kvs).2))
      | some p => .exc (chipP p) (S.set n (.dic (rowsE R kind rows kvs).2)) := by
  have hset : S.set n (.dic kvs) = S := by
    obtain ⟨hl, he⟩ := (List.getElem?_eq_some_iff.mp hS)
    rw [← he]; simp
  unfold m_check_rows
  simp only [if_true, hS]
  cases rows with
  | tup rs =>
    obtain ⟨h1, h2, m, hm, h3⟩ := okd_tup hv
    have ha : rs.all (ok S) = true := by
      rw [List.all_eq_true]
      intro x hx
      refine hok x (okd_of (okvL_mem h2 x hx) ?_)
      have := depL_mem h3 x hx
      omega
    simp only [h1, ha, hz, hb, true_and, if_true]
    unfold rowsE
    simp only
    generalize rowsGo R 0 rs kvs = q
    obtain ⟨q1, q2⟩ := q
    cases q1 <;> rfl
  | _ =>
    have hv' := (okd_inv hv).1
    simp only [hv', if_true, rowsE, hset]
    try rfl
theorem seqE_ok {m : ME} {rest : MS} {sd : Sl} {d : D} {S1 : List Cell} (h : m sd S = .ok d S1) : mSeq (mExpr m) rest sd S = rest sd S1 := by
  simp only [mSeq_ev, mExpr_ev, h, thenS_ok]
theorem seqE_exc {m : ME} {rest : MS} {sd : Sl} {x : Ex} {S1 : List Cell} (h : m sd S = .exc x S1) : mSeq (mExpr m) rest sd S = .exc x sd S1 := by
  simp only [mSeq_ev, mExpr_ev, h, thenS_exc]
theorem setF_ev {c f : String} {j s : Nat} {sd : Sl} {d : D} {fs : List (String × D)} (h0 : sd[0]? = some (some (.loc s))) (hj : sd[j]? = some (some d)) (hs : S[s]? = some (.ins c fs)) (hl : fs.length < 1000) : mSetF [c] f (mVar 0) (mVar j) sd S = .nx sd (S.set s (.ins c (putFD f d fs))) := by
  unfold mSetF
  simp only [mVar_ev, hj, h0, thenS_ok, insD, hs, List.mem_singleton, true_and, hl, if_true]
theorem seqF_ev {c f : String} {j s : Nat} {rest : MS} {sd : Sl} {d : D} {fs : List (String × D)} (h0 : sd[0]? = some (some (.loc s))) (hj : sd[j]? = some (some d)) (hs : S[s]? = some (.ins c fs)) (hl : fs.length < 1000) : mSeq (mSetF [c] f (mVar 0) (mVar j)) rest sd S = rest sd (S.set s (.ins c (putFD f d fs))) := by
  simp only [mSeq_ev, setF_ev h0 hj hs hl]
def okA (S : List Cell) (nm i r w o : D) : Prop := okv S nm = true ∧ okd 41 S i = true ∧ okd 41 S r = true ∧ okd 41 S w = true ∧ okd 41 S o = true
theorem chip_run {fi fr fn : Addr} {s : Nat} {nm i r w o : D} (hs : S[s]? = some (.ins "Chip" [])) (hA : okA S nm i r w o) :
    ∃ J sd', bb_Chip_init fi fr fn [some (.loc s), some nm, some i, some r, some w, some o, none] S = match chipE nm i r w o with
      | some p => .exc (chipP p) sd' (S ++ J)
      | none => .nx sd' (S.set s (.ins "Chip" [("name", nm), ("inputs", i), ("registers", r), ("wires", w), ("outputs", o)]) ++ J) := by
  obtain ⟨h1, h2, h3, h4, h5⟩ := hA
  have hsl := (List.getElem?_eq_some_iff.mp hs).1
  have hz2 : 2 ≤ sizeLine := line_le (by omega)
  have en : (mNot (mTru (mCall m_is_name (mCons (mVar 1) mNil)))) [some (.loc s), some nm, some i, some r, some w, some o, none] S = .ok (!isName nm) S := by
    have : m_is_name [nm] S = .ok (.bl (isName nm)) S := p1_ok h1
    simp only [mNot_ev, mTru_ev, mCall_ev, mCons_ev, mVar_ev, mNil_ev, List.getElem?_cons_succ, List.getElem?_cons_zero, bind_ok, this, truD_bl, optR_some]
  unfold bb_Chip_init chipE
  cases hn : isName nm with
  | false =>
    refine ⟨[], [some (.loc s), some nm, some i, some r, some w, some o, none], ?_⟩
    rw [hn] at en
    simp only [mSeq_ev, mIf_ev, en, thenS_ok, Bool.not_false, if_true, List.append_nil]
    simp [mRaise_ev, chipP, hz2]
  | true =>
    rw [hn] at en
    have e0 : ∀ (a rest : MS) , mSeq (mIf (mNot (mTru (mCall m_is_name (mCons (mVar 1) mNil)))) a mNext) rest [some (.loc s), some nm, some i, some r, some w, some o, none] S = rest [some (.loc s), some nm, some i, some r, some w, some o, none] S := fun a rest => by
      rw [mSeq_ev, mIf_ev, en]
      simp only [thenS_ok, Bool.not_true, Bool.false_eq_true, if_false, mNext_ev]
    rw [e0]
    have e1 : ∀ rest : MS, mSeq (mSet 6 mDict0) rest [some (.loc s), some nm, some i, some r, some w, some o, none] S = rest [some (.loc s), some nm, some i, some r, some w, some o, some (.loc S.length)] (S ++ [.dic []]) := fun rest => by
      simp [mSeq_ev, mSet_ev, mDict0]
    rw [e1]
    simp only [Bool.true_eq_false, if_false]
    have gT : ∀ k : List (Key × D), (S ++ [Cell.dic k])[S.length]? = some (.dic k) := fun k => by simp
    have sT : ∀ k k' : List (Key × D), (S ++ [Cell.dic k]).set S.length (.dic k') = S ++ [.dic k'] := fun k k' => by simp
    have c1 : ∀ k, blkv k = true → k.length ≤ 10000 → _ := fun k hb hz => chk_ev (S := S ++ [Cell.dic k]) (ok := okv) (R := isInput) (fa := fi) (kind := cs "in") (rows := i) (n := S.length) (kvs := k) (fun x hx => (okd_inv hx).1) (gT k) hb hz (okd_app h2)
    have c2 : ∀ k, blkv k = true → k.length ≤ 10000 → _ := fun k hb hz => chk_ev (S := S ++ [Cell.dic k]) (ok := okd 40) (R := isRegister) (fa := fr) (kind := cs "reg") (rows := r) (n := S.length) (kvs := k) (fun x hx => hx) (gT k) hb hz (okd_app h3)
    have c3 : ∀ k, blkv k = true → k.length ≤ 10000 → _ := fun k hb hz => chk_ev (S := S ++ [Cell.dic k]) (ok := okd 40) (R := isNamed) (fa := fn) (kind := cs "wire") (rows := w) (n := S.length) (kvs := k) (fun x hx => hx) (gT k) hb hz (okd_app h4)
    have b1 := rowsE_ok (R := isInput) (kind := cs "in") (kvs := []) rfl (okd_inv h2).1
    have b2 := rowsE_ok (R := isRegister) (kind := cs "reg") b1.1 (okd_inv h3).1
    have b3 := rowsE_ok (R := isNamed) (kind := cs "wire") b2.1 (okd_inv h4).1
    have c1 := c1 [] rfl (by simp)
    have z1 : (rowsE isInput (cs "in") i []).2.length ≤ 1000 := by have := b1.2; simp only [List.length_nil] at this; omega
    have c2 := c2 _ b1.1 (by omega)
    have c3 := c3 _ b2.1 (by have := b2.2; omega)
    rw [sT] at c1 c2 c3
    generalize hk1 : (rowsE isInput (cs "in") i []).2 = k1 at *
    generalize hk2 : (rowsE isRegister (cs "reg") r k1).2 = k2 at *
    generalize hk3 : (rowsE isNamed (cs "wire") w k2).2 = k3 at *
    generalize hsd : [some (D.loc s), some nm, some i, some r, some w, some o, some (D.loc S.length)] = sd
    have arg : ∀ (f : List D → List Cell → Res D) (x : List Nat) (j : Nat) (d : D) (a : Addr) (S' : List Cell), sd[j]? = some (some d) → (mCall f (mCons (mC (.str x)) (mCons (mVar j) (mCons (mC (.adr a)) (mCons (mVar 6) mNil))))) sd S' = f [.str x, d, .adr a, .loc S.length] S' := fun f x j d a S' hj => by
      have h6 : sd[6]? = some (some (.loc S.length)) := by rw [← hsd]; rfl
      simp only [mCall_ev, mCons_ev, mC_ev, mVar_ev, hj, h6, mNil_ev, bind_ok]
    have a1 := arg (m_check_rows okv isInput fi) (cs "in") 2 i fi (S ++ [.dic []]) (by rw [← hsd]; rfl)
    have a2 := arg (m_check_rows (okd 40) isRegister fr) (cs "reg") 3 r fr (S ++ [.dic k1]) (by rw [← hsd]; rfl)
    have a3 := arg (m_check_rows (okd 40) isNamed fn) (cs "wire") 4 w fn (S ++ [.dic k2]) (by rw [← hsd]; rfl)
    rw [c1] at a1
    rw [c2] at a2
    rw [c3] at a3
    cases q1 : (rowsE isInput (cs "in") i []).1 with
    | some p =>
      rw [q1] at a1
      exact ⟨[.dic k1], sd, seqE_exc a1⟩
    | none =>
      rw [q1] at a1
      rw [seqE_ok a1]
      cases q2 : (rowsE isRegister (cs "reg") r k1).1 with
      | some p =>
        rw [q2] at a2
        exact ⟨[.dic k2], sd, seqE_exc a2⟩
      | none =>
        rw [q2] at a2
        rw [seqE_ok a2]
        cases q3 : (rowsE isNamed (cs "wire") w k2).1 with
        | some p =>
          rw [q3] at a3
          exact ⟨[.dic k3], sd, seqE_exc a3⟩
        | none =>
          rw [q3] at a3
          rw [seqE_ok a3]
          have hl3 : (S ++ [Cell.dic k3]).length = S.length + 1 := by simp
          have c4 := chk_ev (S := S ++ [Cell.dic k3] ++ [Cell.dic []]) (ok := okd 40) (R := isNamed) (fa := fn) (kind := cs "out") (rows := o) (n := S.length + 1) (kvs := []) (fun x hx => hx) (by rw [← hl3]; simp) rfl (by simp) (okd_app (okd_app h5))
          have s4 : ∀ k, (S ++ [Cell.dic k3] ++ [Cell.dic []]).set (S.length + 1) (.dic k) = S ++ [.dic k3, .dic k] := fun k => by
            rw [← hl3]
            simp
          rw [s4] at c4
          generalize (rowsE isNamed (cs "out") o []).2 = k4 at c4
          have a4 : (mCall (m_check_rows (okd 40) isNamed fn) (mCons (mC (.str (cs "out"))) (mCons (mVar 5) (mCons (mC (.adr fn)) (mCons mDict0 mNil))))) sd (S ++ [.dic k3]) = m_check_rows (okd 40) isNamed fn [.str (cs "out"), o, .adr fn, .loc (S.length + 1)] (S ++ [.dic k3] ++ [.dic []]) := by
            rw [← hl3]
            have hj : sd[5]? = some (some o) := by rw [← hsd]; rfl
            simp only [mCall_ev, mCons_ev, mC_ev, mVar_ev, hj, mDict0, mNil_ev, bind_ok]
          rw [c4] at a4
          cases q4 : (rowsE isNamed (cs "out") o []).1 with
          | some p =>
            rw [q4] at a4
            exact ⟨[.dic k3, .dic k4], sd, seqE_exc a4⟩
          | none =>
            rw [q4] at a4
            rw [seqE_ok a4]
            refine ⟨[.dic k3, .dic k4], sd, ?_⟩
            have g0 : (S ++ [Cell.dic k3, .dic k4])[s]? = some (.ins "Chip" []) := by rw [List.getElem?_append_left hsl]; exact hs
            have hl : ∀ c : Cell, s < ((S ++ [Cell.dic k3, .dic k4]).set s c).length := fun c => by simp; omega
            have hl0 : s < (S ++ [Cell.dic k3, .dic k4]).length := by simp; omega
            have j0 : sd[0]? = some (some (.loc s)) := by rw [← hsd]; rfl
            have j1 : sd[1]? = some (some nm) := by rw [← hsd]; rfl
            have j2 : sd[2]? = some (some i) := by rw [← hsd]; rfl
            have j3 : sd[3]? = some (some r) := by rw [← hsd]; rfl
            have j4 : sd[4]? = some (some w) := by rw [← hsd]; rfl
            have j5 : sd[5]? = some (some o) := by rw [← hsd]; rfl
            rw [seqF_ev j0 j1 g0 (by simp)]
            rw [seqF_ev j0 j2 (List.getElem?_set_self hl0) (by simp [putFD])]
            rw [seqF_ev j0 j3 (List.getElem?_set_self (hl _)) (by simp [putFD])]
            rw [List.set_set, seqF_ev j0 j4 (List.getElem?_set_self (by simp; omega)) (by simp [putFD])]
            rw [List.set_set, List.set_set, setF_ev j0 j5 (List.getElem?_set_self (by simp; omega)) (by simp [putFD])]
            simp only [List.set_set]
            rw [List.set_append_left _ _ hsl]
            simp [putFD]
theorem ref_Chip_init (fi fr fn : Addr) (ds : List D) (S : List Cell) (h : ds.length = 6) : RefR S (m_Chip ds S) (bb_Chip_init fi fr fn (startD 7 ds) S) := by
  unfold m_Chip
  split
  · rename_i s nm i r w o
    split
    · rename_i hs
      split
      · rename_i hA
        have hst : startD 7 [D.loc s, nm, i, r, w, o] = [some (.loc s), some nm, some i, some r, some w, some o, none] := rfl
        rw [hst]
        obtain ⟨J, sd', e⟩ := chip_run (fi := fi) (fr := fr) (fn := fn) hs hA
        rw [e]
        obtain ⟨h1, h2, h3, h4, h5⟩ := hA
        split
        · rename_i p hp
          have hb : D.bel S.length p := by
            unfold chipE at hp
            have rb : ∀ {R : D → Bool} {kind : List Nat} {rows : D} {kvs : List (Key × D)} {p : D}, (rowsE R kind rows kvs).1 = some p → D.bel S.length p := by
              intro R kind rows kvs p hp
              unfold rowsE at hp
              split at hp
              · obtain ⟨j, _, rfl⟩ := Option.map_eq_some_iff.mp hp
                simp [D.belL]
              · cases hp
                simp [D.belL]
            split at hp
            · cases hp
              simp [D.belL]
            · split at hp
              · rename_i q
                cases hp
                exact rb q
              · split at hp
                · rename_i q
                  cases hp
                  exact rb q
                · split at hp
                  · rename_i q
                    cases hp
                    exact rb q
                  · exact rb hp
          exact ⟨Nat.le_refl _, by simp [chipP, exFs, D.belL, hb], fun c hc => .inl hc, J, sd', rfl⟩
        · refine ⟨by simp, by simp, fun c hc => ?_, J, .inr ⟨rfl, sd', rfl⟩⟩
          rcases List.mem_or_eq_of_mem_set hc with hc | rfl
          · exact .inl hc
          · refine .inr ?_
            show D.belL _ _
            rw [List.length_set]
            exact ⟨okv_bel h1, okv_bel (okd_inv h2).1, okv_bel (okd_inv h3).1, okv_bel (okd_inv h4).1, okv_bel (okd_inv h5).1, trivial⟩
      · trivial
    · trivial
  · trivial
end
end Fx

namespace Fx
open PySem PySem.Spec PyProof.Rows L2
/-! ### rows of a net -/
def isLit (lim : Int) : D → Bool | .int i => decide (0 ≤ i) && decide (i < lim) | _ => false
def isLatch (lim : Int) : D → Bool | .tup [n, b, l] => isStrD n && (isCount b && (decide (intOf b < 2) && isLit lim l)) | _ => false
def isAnd (lim : Int) : D → Bool | .tup [a, b] => isLit lim a && isLit lim b | _ => false
def isOut (lim : Int) : D → Bool | .tup [n, l] => isStrD n && isLit lim l | _ => false
def pureL (r : Int → D → Bool) : List D → List Cell → Res D := fun ds S => match ds with
  | [d, .int lim] => if okv S d = true then .ok (.bl (r lim d)) S else .stk
  | _ => .stk
def m_is_literal : List D → List Cell → Res D := pureL isLit
def m_is_latch : List D → List Cell → Res D := pureL isLatch
def m_is_and : List D → List Cell → Res D := pureL isAnd
def m_is_output : List D → List Cell → Res D := pureL isOut
def netGo (p : Nat → D → Bool) : Nat → List D → Option Nat
  | _, [] => none
  | k, r :: rs => if p k r = true then netGo p (k + 1) rs else some k
def lmB (lm : List D → List Cell → Res D) (S : List Cell) (k : Nat) (r : D) : Bool := match lm [r, .int (k : Nat)] S with | .ok (.bl b) _ => b | _ => false
def netP (d : D) : Ex := ⟨"InvalidNet", exFs ns_InvalidNet d⟩
open Classical in
noncomputable def m_check_net_rows (lm : List D → List Cell → Res D) : List D → List Cell → Res D := fun ds S => match ds with
  | [.str kind, .tup rs] => if rs.length ≤ 1000 ∧ (∀ k r, rs[k]? = some r → lm [r, .int (k : Nat)] S = .ok (.bl (lmB lm S k r)) S) then
      (match netGo (lmB lm S) 0 rs with
      | none => .ok .non S
      | some k => .exc (netP (.tup [.str kind, .int (k : Nat)])) S) else .stk
  | _ => .stk
end Fx

namespace Fx
open PySem PySem.Spec PyProof.Rows L2
noncomputable abbrev bb_is_literal : MS := (mRet (mAndV (mCall m_is_count (mCons (mVar 0) mNil)) (mBin oLt (mVar 0) (mVar 1))))
noncomputable abbrev bb_is_latch : MS := (mSeq (mIf (mOr (mNot (mTru (mIsi "tuple" (mVar 0)))) (mOr (mTst (mBin oNe (mB oLenA (mCons (mVar 0) mNil)) (mC (.int 3)))) (mNot (mTru (mIsi "str" (mBin oIxA (mVar 0) (mC (.int 0))))))))
  (mRet (mC (.bl false)))
  mNext)
  (mRet (mAndV (mCall m_is_count (mCons (mBin oIxA (mVar 0) (mC (.int 1))) mNil)) (mAndV (mBin oLt (mBin oIxA (mVar 0) (mC (.int 1))) (mC (.int 2))) (mCall m_is_literal (mCons (mBin oIxA (mVar 0) (mC (.int 2))) (mCons (mVar 1) mNil)))))))
noncomputable abbrev bb_is_and : MS := (mRet (mAndV (mIsi "tuple" (mVar 0)) (mAndV (mBin oEq (mB oLenA (mCons (mVar 0) mNil)) (mC (.int 2))) (mAndV (mCall m_is_literal (mCons (mBin oIxA (mVar 0) (mC (.int 0))) (mCons (mVar 1) mNil))) (mCall m_is_literal (mCons (mBin oIxA (mVar 0) (mC (.int 1))) (mCons (mVar 1) mNil)))))))
noncomputable abbrev bb_is_output : MS := (mRet (mAndV (mIsi "tuple" (mVar 0)) (mAndV (mBin oEq (mB oLenA (mCons (mVar 0) mNil)) (mC (.int 2))) (mAndV (mIsi "str" (mBin oIxA (mVar 0) (mC (.int 0)))) (mCall m_is_literal (mCons (mBin oIxA (mVar 0) (mC (.int 1))) (mCons (mVar 1) mNil)))))))
noncomputable abbrev bb_check_net_rows (f c' : Addr) (q : Str) (lm : List D → List Cell → Res D) : MS := (mFor (mRng1 (mCons (mB oLenA (mCons (mVar 1) mNil)) mNil)) (gN 3)
  (mIf (mNot (mTru (mLam 2 f c' q lm (mCons (mBin oIxA (mVar 1) (mVar 3)) (mCons (mVar 3) mNil)))))
    (mRaise "InvalidNet" ns_InvalidNet (mTup (mCons (mVar 0) (mCons (mVar 3) mNil))))
    mNext))
noncomputable abbrev bb_Net_init (P0 : Addr) (q_Net : Str) (j0 : Nat) : MS := (mSeq (mFor (mSeqI (mTup (mCons (mTup (mCons (mC (.str (cs "in"))) (mCons (mVar 1) mNil))) (mCons (mTup (mCons (mC (.str (cs "latch"))) (mCons (mVar 2) mNil))) (mCons (mTup (mCons (mC (.str (cs "and"))) (mCons (mVar 3) mNil))) (mCons (mTup (mCons (mC (.str (cs "out"))) (mCons (mVar 4) mNil))) mNil)))))) (gTupD 2 (gsCons (gN 5) (gsCons (gN 6) gsNil)))
  (mIf (mNot (mTru (mIsi "tuple" (mVar 6))))
    (mRaise "InvalidNet" ns_InvalidNet (mTup (mCons (mVar 5) (mCons (mC .non) mNil))))
    mNext))
  (mSeq (mSet 7 (mBin oAdd (mBin oAdd (mC (.int 1)) (mB oLenA (mCons (mVar 1) mNil))) (mB oLenA (mCons (mVar 2) mNil))))
  (mSeq (mSet 8 (mBin oMulL (mC (.int 2)) (mBin oAdd (mVar 7) (mB oLenA (mCons (mVar 3) mNil)))))
  (mSeq (mExpr (mLam2 P0 q_Net j0 m_check_net_rows (mIsi "str" (mVar 9)) (mC (.str (cs "in"))) (mVar 1)))
  (mSeq (mExpr (mLam2 P0 q_Net j0 m_check_net_rows (mCall m_is_latch (mCons (mVar 9) (mCons (mVar 8) mNil))) (mC (.str (cs "latch"))) (mVar 2)))
  (mSeq (mExpr (mLam2 P0 q_Net j0 m_check_net_rows (mCall m_is_and (mCons (mVar 9) (mCons (mBin oMulL (mC (.int 2)) (mBin oAdd (mVar 7) (mVar 10))) mNil))) (mC (.str (cs "and"))) (mVar 3)))
  (mSeq (mExpr (mLam2 P0 q_Net j0 m_check_net_rows (mCall m_is_output (mCons (mVar 9) (mCons (mVar 8) mNil))) (mC (.str (cs "out"))) (mVar 4)))
  (mSeq (mSetF ["Net"] "inputs" (mVar 0) (mVar 1))
  (mSeq (mSetF ["Net"] "latches" (mVar 0) (mVar 2))
  (mSeq (mSetF ["Net"] "ands" (mVar 0) (mVar 3))
  (mSetF ["Net"] "outputs" (mVar 0) (mVar 4))))))))))))
end Fx

namespace Fx
open PySem PySem.Spec PyProof.Rows L2
section
variable {S : List Cell}
theorem ref_pL {r : Int → D → Bool} {b : MS} {n : Nat} (H : ∀ d lim, okv S d = true → b (startD n [d, .int lim]) S = .rt (.bl (r lim d)) S) (ds : List D) : RefR S (pureL r ds S) (b (startD n ds) S) := by
  unfold pureL
  split
  · split
    · rename_i h
      exact ref_pure0 (by simp) (H _ _ h)
    · trivial
  · trivial
theorem pL_ok {r : Int → D → Bool} {d : D} {lim : Int} (h : okv S d = true) : pureL r [d, .int lim] S = .ok (.bl (r lim d)) S := by
  unfold pureL
  simp only [h, if_true]
theorem ref_is_literal (ds : List D) (S : List Cell) (h : ds.length = 2) : RefR S (m_is_literal ds S) (bb_is_literal (startD 2 ds) S) := by
  refine ref_pL (fun d lim hd => ?_) ds
  have e : m_is_count [d] S = .ok (.bl (isCount d)) S := p1_ok hd
  have h0 : (startD 2 [d, .int lim])[0]? = some (some d) := rfl
  have h1 : (startD 2 [d, .int lim])[1]? = some (some (.int lim)) := rfl
  generalize startD 2 [d, .int lim] = sd at h0 h1
  unfold bb_is_literal
  have ec : mCall m_is_count (mCons (mVar 0) mNil) sd S = .ok (.bl (isCount d)) S := call1 (by simp only [mVar_ev, h0]) e
  cases hc : isCount d with
  | true =>
    obtain ⟨i, rfl, hi⟩ := count_int hc
    rw [hc] at ec
    have : isLit lim (.int i) = decide (i < lim) := by simp [isLit, hi]
    rw [this]
    exact ret_of (andV_t ec (by simp only [mBin_ev, mVar_ev, h0, h1, bind_ok, oLt_int]))
  | false =>
    have : isLit lim d = false := by
      cases d with
      | int i =>
        have : ¬ 0 ≤ i := by simpa [isCount] using hc
        simp [isLit, this]
      | _ => rfl
    rw [this]
    rw [hc] at ec
    exact ret_of (andV_f ec rfl)
theorem lit_call {sd : Sl} {m : ME} {d : D} {lim : Int} (h1 : sd[1]? = some (some (.int lim))) (hm : m sd S = .ok d S) (hd : okv S d = true) : mCall m_is_literal (mCons m (mCons (mVar 1) mNil)) sd S = .ok (.bl (isLit lim d)) S :=
  call2 hm (by simp only [mVar_ev, h1]) (pL_ok hd)
theorem ref_is_and (ds : List D) (S : List Cell) (h : ds.length = 2) : RefR S (m_is_and ds S) (bb_is_and (startD 2 ds) S) := by
  refine ref_pL (fun d lim hd => ?_) ds
  have hT := mIsiT (sd := startD 2 [d, .int lim]) hd rfl
  have h0 : (startD 2 [d, .int lim])[0]? = some (some d) := rfl
  have h1 : (startD 2 [d, .int lim])[1]? = some (some (.int lim)) := rfl
  generalize startD 2 [d, .int lim] = sd at h0 h1 hT
  unfold bb_is_and
  cases d with
  | tup l =>
    obtain ⟨_, hv⟩ := okv_tup hd
    match l, hv with
    | [a, b], hv =>
      obtain ⟨va, hv⟩ := okvL_cons hv
      obtain ⟨vb, _⟩ := okvL_cons hv
      exact ret_of (andV_t hT (andV_t (len_eq h0) (andV_bl (lit_call h1 (ix_at (j := 0) h0 rfl) va) fun _ => lit_call h1 (ix_at (j := 1) h0 rfl) vb)))
    | [], _ => exact ret_of (andV_t hT (andV_f (len_eq h0) rfl))
    | [a], _ => exact ret_of (andV_t hT (andV_f (len_eq h0) rfl))
    | a :: b :: c :: l, _ => exact ret_of (andV_t hT (andV_f (len_eq h0) (by simp; omega)))
  | _ => exact ret_of (andV_f hT rfl)
theorem str_at {l : List D} {sd : Sl} {j : Nat} {d : D} (hs : sd[0]? = some (some (.tup l))) (h : l[j]? = some d) (hd : okv S d = true) : (mIsi "str" (mBin oIxA (mVar 0) (mC (.int j)))) sd S = .ok (.bl (isStrD d)) S := by
  rw [mIsi_ev, ix_at hs h]
  simp only [bind_ok, isiS_ok hd]
theorem ref_is_output (ds : List D) (S : List Cell) (h : ds.length = 2) : RefR S (m_is_output ds S) (bb_is_output (startD 2 ds) S) := by
  refine ref_pL (fun d lim hd => ?_) ds
  have hT := mIsiT (sd := startD 2 [d, .int lim]) hd rfl
  have h0 : (startD 2 [d, .int lim])[0]? = some (some d) := rfl
  have h1 : (startD 2 [d, .int lim])[1]? = some (some (.int lim)) := rfl
  generalize startD 2 [d, .int lim] = sd at h0 h1 hT
  unfold bb_is_output
  cases d with
  | tup l =>
    obtain ⟨_, hv⟩ := okv_tup hd
    match l, hv with
    | [a, b], hv =>
      obtain ⟨va, hv⟩ := okvL_cons hv
      obtain ⟨vb, _⟩ := okvL_cons hv
      exact ret_of (andV_t hT (andV_t (len_eq h0) (andV_bl (str_at (j := 0) h0 rfl va) fun _ => lit_call h1 (ix_at (j := 1) h0 rfl) vb)))
    | [], _ => exact ret_of (andV_t hT (andV_f (len_eq h0) rfl))
    | [a], _ => exact ret_of (andV_t hT (andV_f (len_eq h0) rfl))
    | a :: b :: c :: l, _ => exact ret_of (andV_t hT (andV_f (len_eq h0) (by simp; omega)))
  | _ => exact ret_of (andV_f hT rfl)
theorem ref_is_latch (ds : List D) (S : List Cell) (h : ds.length = 2) : RefR S (m_is_latch ds S) (bb_is_latch (startD 2 ds) S) := by
  refine ref_pL (fun d lim hd => ?_) ds
  have hT := mIsiT (sd := startD 2 [d, .int lim]) hd rfl
  have h0 : (startD 2 [d, .int lim])[0]? = some (some d) := rfl
  have h1 : (startD 2 [d, .int lim])[1]? = some (some (.int lim)) := rfl
  generalize startD 2 [d, .int lim] = sd at h0 h1 hT
  unfold bb_is_latch
  cases d with
  | tup l =>
    obtain ⟨_, hv⟩ := okv_tup hd
    have n0 : (mNot (mTru (mIsi "tuple" (mVar 0)))) sd S = .ok false S := by
      simp only [mNot_ev, mTru_ev, hT, isTupD, bind_ok, truD_bl, optR_some, Bool.not_true]
    by_cases h3 : l.length = 3
    · match l, h3, hv with
      | [a, b, c], _, hv =>
        obtain ⟨va, hv⟩ := okvL_cons hv
        obtain ⟨vb, hv⟩ := okvL_cons hv
        obtain ⟨vc, _⟩ := okvL_cons hv
        have ea := str_at (S := S) (j := 0) h0 rfl va
        refine seq_if (p := !isStrD a) ?_ ?_ ?_
        · have ea : (mIsi "str" (mBin oIxA (mVar 0) (mC (.int 0)))) sd S = .ok (.bl (isStrD a)) S := ea
          simp only [mOr_ev, n0, bind_ok, Bool.false_eq_true, if_false, len_ne h0, show ((([a, b, c] : List D).length : Int) != 3) = false from rfl, mNot_ev, mTru_ev, ea, truD_bl, optR_some]
        · intro hp
          have hp : isStrD a = false := by rwa [Bool.not_eq_true'] at hp
          have : isLatch lim (.tup [a, b, c]) = false := by
            show (isStrD a && _) = false
            rw [hp]; rfl
          rw [this]
          exact ret_of rfl
        · intro hp
          have hp : isStrD a = true := by rwa [Bool.not_eq_false'] at hp
          have : isLatch lim (.tup [a, b, c]) = (isCount b && (decide (intOf b < 2) && isLit lim c)) := by
            show (isStrD a && _) = _
            rw [hp]; rfl
          rw [this]
          refine ret_of (andV_bl (call1 (ix_at (j := 1) h0 rfl) (p1_ok vb)) fun hb => ?_)
          obtain ⟨i, rfl, hi⟩ := count_int hb
          have i1 := ix_at (S := S) (j := 1) h0 rfl
          have i1 : (mBin oIxA (mVar 0) (mC (.int 1))) sd S = .ok (.int i) S := i1
          exact andV_bl (by rw [mBin_ev, i1]; simp only [bind_ok, mC_ev, oLt_int]; rfl) fun _ => lit_call h1 (ix_at (j := 2) h0 rfl) vc
    · have hf : isLatch lim (.tup l) = false := by
        unfold isLatch
        split
        · rename_i heq
          cases heq
          exact absurd rfl h3
        · rfl
      rw [hf]
      refine seq_if (p := true) ?_ ?_ ?_
      · simp only [mOr_ev, n0, bind_ok, Bool.false_eq_true, if_false, len_ne h0, show ((l.length : Int) != 3) = true from by simp; omega, if_true]
      · intro _; rfl
      · intro h; cases h
  | _ =>
    refine seq_if (p := true) ?_ ?_ ?_
    · simp only [mOr_ev, mNot_ev, mTru_ev, hT, isTupD, bind_ok, truD_bl, optR_some, Bool.not_false, if_true]
    · intro _; rfl
    · intro h; cases h
def lp4 (kind : List Nat) (all : List D) (f c' : Addr) (q : Str) (x : Option D) : Sl := [some (.str kind), some (.tup all), some (.lam f c' q), x]
theorem net_loop {f c' : Addr} {q : Str} {lm : List D → List Cell → Res D} {kind : List Nat} {all : List D} (hlm : ∀ (k : Nat) (r : D), all[k]? = some r → lm [r, .int (k : Nat)] S = .ok (.bl (lmB lm S k r)) S) :
    ∀ (m k : Nat) (rs : List D) (x : Option D), all.drop k = rs → k + m = all.length → ∃ x', forGo ⟨rngD 0 all.length, none⟩ (gN 3) (mIf (mNot (mTru (mLam 2 f c' q lm (mCons (mBin oIxA (mVar 1) (mVar 3)) (mCons (mVar 3) mNil)))))
      (mRaise "InvalidNet" ns_InvalidNet (mTup (mCons (mVar 0) (mCons (mVar 3) mNil))))
      mNext) ((rngD 0 all.length).drop k) (lp4 kind all f c' q x) S = match netGo (lmB lm S) k rs with
        | none => .nx (lp4 kind all f c' q x') S
        | some j => .exc (netP (.tup [.str kind, .int (j : Nat)])) (lp4 kind all f c' q x') S
  | 0, k, rs, x, hd, hk => by
    have : (rngD 0 all.length).drop k = [] := List.drop_of_length_le (by rw [rngD_length]; omega)
    rw [this]
    have : rs = [] := by rw [← hd]; exact List.drop_of_length_le (by omega)
    subst this
    exact ⟨x, by simp [forGo, ItD.okAt, netGo]⟩
  | m + 1, k, rs, x, hd, hk => by
    have hlt : k < all.length := by omega
    rw [rngD_drop 0 _ k hlt]
    rw [List.drop_eq_getElem_cons hlt] at hd
    subst hd
    have eg : all[k]? = some all[k] := by simp [hlt]
    generalize all[k] = r at eg
    have okit : (⟨rngD 0 all.length, none⟩ : ItD).okAt S := trivial
    have eset : (lp4 kind all f c' q x).set 3 (some (.int (0 + (k : Nat)))) = lp4 kind all f c' q (some (.int (k : Nat))) := by
      rw [Int.zero_add]; rfl
    have et : (mNot (mTru (mLam 2 f c' q lm (mCons (mBin oIxA (mVar 1) (mVar 3)) (mCons (mVar 3) mNil))))) (lp4 kind all f c' q (some (.int (k : Nat)))) S = .ok (!lmB lm S k r) S := by
      have hl := hlm k r eg
      have : (mCons (mBin oIxA (mVar 1) (mVar 3)) (mCons (mVar 3) mNil)) (lp4 kind all f c' q (some (.int (k : Nat)))) S = .ok [r, .int (k : Nat)] S := by
        simp only [lp4, mCons_ev, mBin_ev, mVar_ev, List.getElem?_cons_succ, List.getElem?_cons_zero, bind_ok, oIxA_tup, atI_nat', eg, optR_some, mNil_ev]
      have e2 : (mLam 2 f c' q lm (mCons (mBin oIxA (mVar 1) (mVar 3)) (mCons (mVar 3) mNil))) (lp4 kind all f c' q (some (.int (k : Nat)))) S = .ok (.bl (lmB lm S k r)) S := by
        unfold mLam
        rw [this]
        simp only [lp4, List.getElem?_cons_succ, List.getElem?_cons_zero, and_self, if_true, bind_ok, hl]
      simp only [mNot_ev, mTru_ev, e2, bind_ok, truD_bl, optR_some]
    have h2 : 2 ≤ sizeLine := line_le (by omega)
    unfold forGo netGo
    rw [if_pos okit]
    simp only [gN_ev, eset, mIf_ev, et, thenS_ok]
    cases hb : lmB lm S k r with
    | true =>
      simp only [Bool.not_true, Bool.false_eq_true, if_false, mNext_ev, if_true]
      exact net_loop hlm m (k + 1) _ (some (.int (k : Nat))) rfl (by omega)
    | false =>
      refine ⟨some (.int (k : Nat)), ?_⟩
      simp only [Bool.not_false, if_true, Bool.false_eq_true, if_false]
      simp [mRaise_ev, lp4, netP, h2]
theorem ref_check_net_rows (f c' : Addr) (q : Str) (lm : List D → List Cell → Res D) (ds : List D) (S : List Cell) (h : ds.length = 2) : RefR S (m_check_net_rows lm ds S) (bb_check_net_rows f c' q lm (startD 4 (ds ++ [.lam f c' q])) S) := by
  unfold m_check_net_rows
  split
  · rename_i kind rs
    split
    · rename_i hc
      obtain ⟨x', e⟩ := net_loop (kind := kind) (f := f) (c' := c') (q := q) hc.2 rs.length 0 rs none rfl (by omega)
      have hc62 : c62 (rs.length : Int) = true := by have := hc.1; unfold c62; simp; omega
      have hev : ∀ r, (match netGo (lmB lm S) 0 rs with
          | none => ResS.nx (lp4 kind rs f c' q x') S
          | some j => .exc (netP (.tup [.str kind, .int (j : Nat)])) (lp4 kind rs f c' q x') S) = r → bb_check_net_rows f c' q lm (startD 4 ([.str kind, .tup rs] ++ [.lam f c' q])) S = r := by
        intro r hr
        rw [← hr, ← e]
        show bb_check_net_rows f c' q lm (lp4 kind rs f c' q none) S = _
        unfold bb_check_net_rows
        simp only [mFor_ev, mRng1_ev, mCons_ev, mB_ev, mVar_ev, lp4, List.getElem?_cons_succ, List.getElem?_cons_zero, bind_ok, mNil_ev, oLenA_tup, hc62, if_true, Int.toNat_natCast, thenS_ok]
        rfl
      split
      · rename_i hgo
        rw [hgo] at hev
        rw [hev _ rfl]
        exact ⟨Nat.le_refl _, by simp, fun c hc => .inl hc, [], .inr ⟨rfl, _, by rw [List.append_nil]⟩⟩
      · rename_i hgo
        rw [hgo] at hev
        rw [hev _ rfl]
        exact ⟨Nat.le_refl _, by simp [netP, exFs, D.belL], fun c hc => .inl hc, [], _, by rw [List.append_nil]⟩
    · trivial
  · trivial
end
end Fx

namespace Fx
open PySem PySem.Spec PyProof.Rows L2
/-! ### making a net -/
def listOf : D → List D | .tup l => l | _ => []
def notT : List (List Nat × D) → Option D
  | [] => none
  | (k, d) :: r => if isTupD d = true then notT r else some (.tup [.str k, .non])
def firstOf (i l : D) : Int := 1 + ((listOf i).length : Int) + ((listOf l).length : Int)
def limOf (i l a : D) : Int := 2 * (firstOf i l + ((listOf a).length : Int))
def netR (kind : List Nat) (k : Option Nat) (r : Option D) : Option D := match k with
  | some k => some (.tup [.str kind, .int (k : Nat)])
  | none => r
def netE (i l a o : D) : Option D := match notT [(cs "in", i), (cs "latch", l), (cs "and", a), (cs "out", o)] with
  | some p => some p
  | none => netR (cs "in") (netGo (fun _ r => isStrD r) 0 (listOf i)) (netR (cs "latch") (netGo (fun _ r => isLatch (limOf i l a) r) 0 (listOf l))
      (netR (cs "and") (netGo (fun k r => isAnd (2 * (firstOf i l + (k : Nat))) r) 0 (listOf a)) (netR (cs "out") (netGo (fun _ r => isOut (limOf i l a) r) 0 (listOf o)) none)))
def m_Net (P : Addr) (q : Str) (j : Nat) : List D → List Cell → Res D := fun ds S => match ds with
  | [.loc s, i, l, a, o] => match S[s]?, S[j]? with
    | some (.ins "Net" []), some (.tab P' q') => if (P' = P ∧ q' = q) ∧ okv S i = true ∧ okv S l = true ∧ okv S a = true ∧ okv S o = true then
        (match netE i l a o with
        | some p => .exc (netP p) S
        | none => .ok .non (S.set s (.ins "Net" [("inputs", i), ("latches", l), ("ands", a), ("outputs", o)])))
      else .stk
    | _, _ => .stk
  | _ => .stk
theorem netGo_congr {p p' : Nat → D → Bool} : ∀ (rs : List D) (k : Nat), (∀ j r, rs[j]? = some r → p (k + j) r = p' (k + j) r) → netGo p k rs = netGo p' k rs
  | [], _, _ => rfl
  | r :: rs, k, h => by
    have h0 : p k r = p' k r := h 0 r rfl
    have ih := netGo_congr (p := p) (p' := p') rs (k + 1) fun j r hj => by
      have := h (j + 1) r (by simpa using hj)
      rwa [show k + (j + 1) = k + 1 + j by omega] at this
    unfold netGo
    rw [h0, ih]
section
variable {S : List Cell}
theorem lamS {P : Addr} {q : Str} {j v : Nat} {kind : List Nat} {eb : ME} {rest : MS} {sd : Sl} {rs : List D} {p : Nat → D → Bool} (hj : S[j]? = some (.tab P q)) (hv : sd[v]? = some (some (.tup rs))) (hl : rs.length ≤ 1000)
    (h : ∀ k r, rs[k]? = some r → eb (capt sd ++ [some r, some (.int (k : Nat))]) S = .ok (.bl (p k r)) S) :
    mSeq (mExpr (mLam2 P q j m_check_net_rows eb (mC (.str kind)) (mVar v))) rest sd S = match netGo p 0 rs with
      | some k => .exc (netP (.tup [.str kind, .int (k : Nat)])) sd S
      | none => rest sd S := by
  have hb : ∀ k r, rs[k]? = some r → lmB (fun ds S' => eb (capt sd ++ ds.map some) S') S k r = p k r := fun k r hk => by
    unfold lmB
    simp only [List.map_cons, List.map_nil, h k r hk]
  have e : (mLam2 P q j m_check_net_rows eb (mC (.str kind)) (mVar v)) sd S = match netGo p 0 rs with
      | some k => .exc (netP (.tup [.str kind, .int (k : Nat)])) S
      | none => .ok .non S := by
    unfold mLam2
    simp only [mC_ev, bind_ok, mVar_ev, hv, hj, and_self, if_true]
    unfold m_check_net_rows
    simp only
    rw [if_pos ⟨hl, fun k r hk => by
      rw [hb k r hk]
      exact h k r hk⟩, netGo_congr rs 0 (p' := p) fun k r hk => by
      rw [Nat.zero_add]
      exact hb k r hk]
    cases netGo p 0 rs <;> rfl
  cases hg : netGo p 0 rs with
  | none =>
    rw [hg] at e
    exact seqE_ok e
  | some k =>
    rw [hg] at e
    exact seqE_exc e
abbrev nG : MG := gTupD 2 (gsCons (gN 5) (gsCons (gN 6) gsNil))
abbrev nB : MS := mIf (mNot (mTru (mIsi "tuple" (mVar 6)))) (mRaise "InvalidNet" ns_InvalidNet (mTup (mCons (mVar 5) (mCons (mC .non) mNil)))) mNext
def ls9 (s : Nat) (i l a o : D) (x5 x6 x7 x8 : Option D) : Sl := [some (.loc s), some i, some l, some a, some o, x5, x6, x7, x8]
theorem nt_loop {s : Nat} {i l a o : D} {x7 x8 : Option D} {it : ItD} (hit : it.g = none) : ∀ (ks : List (List Nat × D)) (x5 x6 : Option D), (∀ p ∈ ks, okv S p.2 = true) → ∃ y5 y6, forGo it nG nB (ks.map fun p => .tup [.str p.1, p.2]) (ls9 s i l a o x5 x6 x7 x8) S = match notT ks with
    | some p => .exc (netP p) (ls9 s i l a o y5 y6 x7 x8) S
    | none => .nx (ls9 s i l a o y5 y6 x7 x8) S
  | [], x5, x6, _ => ⟨x5, x6, by
    have ok : it.okAt S := by unfold ItD.okAt; rw [hit]; trivial
    simp [forGo, ok, notT]⟩
  | (k, d) :: ks, x5, x6, hk => by
    have ok : it.okAt S := by unfold ItD.okAt; rw [hit]; trivial
    have hd : okv S d = true := hk (k, d) (by simp)
    have h2 : 2 ≤ sizeLine := line_le (by omega)
    have eg : nG (.tup [.str k, d]) (ls9 s i l a o x5 x6 x7 x8) S = .ok (ls9 s i l a o (some (.str k)) (some d) x7 x8) S := by
      simp [gTupD_ev, gsCons_ev, ls9]
    have et : (mNot (mTru (mIsi "tuple" (mVar 6)))) (ls9 s i l a o (some (.str k)) (some d) x7 x8) S = .ok (!isTupD d) S := by
      simp only [mNot_ev, mTru_ev, mIsi_ev, mVar_ev, ls9, List.getElem?_cons_succ, List.getElem?_cons_zero, bind_ok, isiT_ok hd, truD_bl, optR_some]
    unfold notT
    rw [List.map_cons]
    unfold forGo
    rw [if_pos ok]
    simp only [eg]
    cases hT : isTupD d with
    | true =>
      rw [hT] at et
      have eb : nB (ls9 s i l a o (some (.str k)) (some d) x7 x8) S = .nx (ls9 s i l a o (some (.str k)) (some d) x7 x8) S := by
        simp only [nB, mIf_ev, et, thenS_ok, Bool.not_true, Bool.false_eq_true, if_false, mNext_ev]
      simp only [eb, if_true]
      exact nt_loop hit ks _ _ fun p hp => hk p (by simp [hp])
    | false =>
      rw [hT] at et
      refine ⟨some (.str k), some d, ?_⟩
      have eb : nB (ls9 s i l a o (some (.str k)) (some d) x7 x8) S = .exc (netP (.tup [.str k, .non])) (ls9 s i l a o (some (.str k)) (some d) x7 x8) S := by
        simp only [nB, mIf_ev, et, thenS_ok, Bool.not_false, if_true]
        simp [mRaise_ev, ls9, netP, h2]
      simp only [eb, Bool.false_eq_true, if_false]
theorem tup_of {d : D} (h : isTupD d = true) : ∃ l, d = .tup l := by
  cases d with
  | tup l => exact ⟨l, rfl⟩
  | _ => cases h
theorem notT_none : ∀ {ks : List (List Nat × D)}, notT ks = none → ∀ p ∈ ks, isTupD p.2 = true
  | [], _, p, hp => by cases hp
  | (k, d) :: ks, h, p, hp => by
    unfold notT at h
    split at h
    · rename_i hT
      rcases List.mem_cons.mp hp with rfl | hp
      · exact hT
      · exact notT_none h p hp
    · cases h
theorem net_run {P : Addr} {q : Str} {j s : Nat} {i l a o : D} (hs : S[s]? = some (.ins "Net" [])) (hj : S[j]? = some (.tab P q)) (vi : okv S i = true) (vl : okv S l = true) (va : okv S a = true) (vo : okv S o = true) :
    ∃ sd', bb_Net_init P q j (ls9 s i l a o none none none none) S = match netE i l a o with
      | some p => .exc (netP p) sd' S
      | none => .nx sd' (S.set s (.ins "Net" [("inputs", i), ("latches", l), ("ands", a), ("outputs", o)])) := by
  have hsl := (List.getElem?_eq_some_iff.mp hs).1
  have h2 : 2 ≤ sizeLine := line_le (by omega)
  have h4 : 4 ≤ sizeLine := line_le (by omega)
  obtain ⟨y5, y6, e⟩ := nt_loop (S := S) (s := s) (i := i) (l := l) (a := a) (o := o) (x7 := none) (x8 := none) (it := ⟨[.tup [.str (cs "in"), i], .tup [.str (cs "latch"), l], .tup [.str (cs "and"), a], .tup [.str (cs "out"), o]], none⟩) rfl [(cs "in", i), (cs "latch", l), (cs "and", a), (cs "out", o)] none none (fun p hp => by
    simp only [List.mem_cons, List.not_mem_nil, or_false] at hp
    rcases hp with rfl | rfl | rfl | rfl <;> assumption)
  have ef : ∀ r, (match notT [(cs "in", i), (cs "latch", l), (cs "and", a), (cs "out", o)] with
      | some p => ResS.exc (netP p) (ls9 s i l a o y5 y6 none none) S
      | none => .nx (ls9 s i l a o y5 y6 none none) S) = r → (mFor (mSeqI (mTup (mCons (mTup (mCons (mC (.str (cs "in"))) (mCons (mVar 1) mNil))) (mCons (mTup (mCons (mC (.str (cs "latch"))) (mCons (mVar 2) mNil))) (mCons (mTup (mCons (mC (.str (cs "and"))) (mCons (mVar 3) mNil))) (mCons (mTup (mCons (mC (.str (cs "out"))) (mCons (mVar 4) mNil))) mNil)))))) nG nB)
        (ls9 s i l a o none none none none) S = r := by
    intro r hr
    rw [← hr, ← e]
    simp only [mFor_ev, mSeqI_ev, mTup_ev, mCons_ev, mC_ev, mVar_ev, mNil_ev, ls9, List.getElem?_cons_succ, List.getElem?_cons_zero, bind_ok, List.length_cons, List.length_nil, Nat.zero_add, if_pos h2, if_pos h4, thenS_ok, List.map_cons, List.map_nil]
  unfold bb_Net_init netE
  cases hnt : notT [(cs "in", i), (cs "latch", l), (cs "and", a), (cs "out", o)] with
  | some p =>
    rw [hnt] at ef
    exact ⟨ls9 s i l a o y5 y6 none none, by rw [mSeq_ev, ef _ rfl]⟩
  | none =>
    rw [hnt] at ef
    rw [seq_nx (ef _ rfl) rfl]
    obtain ⟨is, rfl⟩ := tup_of (notT_none hnt (cs "in", i) (by simp))
    obtain ⟨ls, rfl⟩ := tup_of (notT_none hnt (cs "latch", l) (by simp))
    obtain ⟨as, rfl⟩ := tup_of (notT_none hnt (cs "and", a) (by simp))
    obtain ⟨os, rfl⟩ := tup_of (notT_none hnt (cs "out", o) (by simp))
    obtain ⟨li, vi⟩ := okv_tup vi
    obtain ⟨ll, vl⟩ := okv_tup vl
    obtain ⟨la, va⟩ := okv_tup va
    obtain ⟨lo, vo⟩ := okv_tup vo
    have m2 : cMul 2 (1 + (is.length : Int) + (ls.length : Int) + (as.length : Int)) = true := by unfold cMul c64; simp
    rw [seq_nx (sd1 := ls9 s (.tup is) (.tup ls) (.tup as) (.tup os) y5 y6 (some (.int (firstOf (.tup is) (.tup ls)))) none) (by simp [ls9, firstOf, listOf]) rfl]
    rw [seq_nx (sd1 := ls9 s (.tup is) (.tup ls) (.tup as) (.tup os) y5 y6 (some (.int (firstOf (.tup is) (.tup ls)))) (some (.int (limOf (.tup is) (.tup ls) (.tup as))))) (by simp [ls9, firstOf, limOf, listOf, oMulL_int, m2]) rfl]
    generalize hF : firstOf (.tup is) (.tup ls) = F
    generalize hM : limOf (.tup is) (.tup ls) (.tup as) = M
    generalize hsd : ls9 s (.tup is) (.tup ls) (.tup as) (.tup os) y5 y6 (some (.int F)) (some (.int M)) = sd
    have g9 : ∀ (r k : Option D), (capt sd ++ [r, k])[9]? = some r := fun r k => by rw [← hsd]; rfl
    have g10 : ∀ (r k : Option D), (capt sd ++ [r, k])[10]? = some k := fun r k => by rw [← hsd]; rfl
    have g8 : ∀ (r k : Option D), (capt sd ++ [r, k])[8]? = some (some (.int M)) := fun r k => by rw [← hsd]; rfl
    have g7 : ∀ (r k : Option D), (capt sd ++ [r, k])[7]? = some (some (.int F)) := fun r k => by rw [← hsd]; rfl
    rw [lamS (p := fun _ r => isStrD r) (rs := is) hj (by rw [← hsd]; rfl) li (fun k r hk => by
      simp only [mIsi_ev, mVar_ev, g9, bind_ok, isiS_ok (okvL_mem vi r (List.mem_of_getElem? hk))])]
    rw [lamS (p := fun _ r => isLatch M r) (rs := ls) hj (by rw [← hsd]; rfl) ll (fun k r hk => by
      refine call2 (d := r) (e := .int M) (by simp only [mVar_ev, g9]) (by simp only [mVar_ev, g8]) (pL_ok (okvL_mem vl r (List.mem_of_getElem? hk))))]
    rw [lamS (p := fun k r => isAnd (2 * (F + (k : Nat))) r) (rs := as) hj (by rw [← hsd]; rfl) la (fun k r hk => by
      refine call2 (d := r) (e := .int (2 * (F + (k : Nat)))) (by simp only [mVar_ev, g9]) ?_ (pL_ok (okvL_mem va r (List.mem_of_getElem? hk)))
      have m3 : cMul 2 (F + (k : Int)) = true := by unfold cMul c64; simp
      simp only [mBin_ev, mC_ev, mVar_ev, g7, g10, bind_ok, oAdd_int, oMulL_int, m3, if_true])]
    rw [lamS (p := fun _ r => isOut M r) (rs := os) hj (by rw [← hsd]; rfl) lo (fun k r hk => by
      refine call2 (d := r) (e := .int M) (by simp only [mVar_ev, g9]) (by simp only [mVar_ev, g8]) (pL_ok (okvL_mem vo r (List.mem_of_getElem? hk))))]
    refine ⟨sd, ?_⟩
    simp only [listOf]
    cases netGo (fun _ r => isStrD r) 0 is with
    | some k => rfl
    | none =>
      cases netGo (fun _ r => isLatch M r) 0 ls with
      | some k => rfl
      | none =>
        cases netGo (fun k r => isAnd (2 * (F + (k : Nat))) r) 0 as with
        | some k => rfl
        | none =>
          cases netGo (fun _ r => isOut M r) 0 os with
          | some k => rfl
          | none =>
            simp only [netR]
            have j0 : sd[0]? = some (some (.loc s)) := by rw [← hsd]; rfl
            have j1 : sd[1]? = some (some (.tup is)) := by rw [← hsd]; rfl
            have j2 : sd[2]? = some (some (.tup ls)) := by rw [← hsd]; rfl
            have j3 : sd[3]? = some (some (.tup as)) := by rw [← hsd]; rfl
            have j4 : sd[4]? = some (some (.tup os)) := by rw [← hsd]; rfl
            rw [seqF_ev j0 j1 hs (by simp)]
            rw [seqF_ev j0 j2 (List.getElem?_set_self hsl) (by simp [putFD])]
            rw [List.set_set, seqF_ev j0 j3 (List.getElem?_set_self hsl) (by simp [putFD])]
            rw [List.set_set, setF_ev j0 j4 (List.getElem?_set_self hsl) (by simp [putFD])]
            simp [putFD]
theorem ref_Net_init (P : Addr) (q : Str) (j : Nat) (ds : List D) (S : List Cell) (h : ds.length = 5) : RefR S (m_Net P q j ds S) (bb_Net_init P q j (startD 9 ds) S) := by
  unfold m_Net
  split
  · rename_i s i l a o
    split
    · rename_i P' q' hs hj
      split
      · rename_i hA
        obtain ⟨⟨rfl, rfl⟩, vi, vl, va, vo⟩ := hA
        obtain ⟨sd', e⟩ := net_run hs hj vi vl va vo
        have e : bb_Net_init P' q' j (startD 9 [.loc s, i, l, a, o]) S = _ := e
        rw [e]
        split
        · rename_i p hp
          have hb : D.bel S.length p := by
            have rb : ∀ (kind : List Nat) (k : Option Nat) (r : Option D), (∀ p, r = some p → D.bel S.length p) → ∀ p, netR kind k r = some p → D.bel S.length p := by
              intro kind k r hr p hp
              unfold netR at hp
              split at hp
              · cases hp
                simp [D.belL]
              · exact hr p hp
            have nb : ∀ ks : List (List Nat × D), ∀ p, notT ks = some p → D.bel S.length p := by
              intro ks
              induction ks with
              | nil => intro p hp; cases hp
              | cons x ks ih =>
                intro p hp
                obtain ⟨k, d⟩ := x
                unfold notT at hp
                split at hp
                · exact ih p hp
                · cases hp
                  simp [D.belL]
            unfold netE at hp
            split at hp
            · rename_i hq
              cases hp
              exact nb _ _ hq
            · exact rb _ _ _ (rb _ _ _ (rb _ _ _ (rb _ _ _ fun p hp => by cases hp))) p hp
          exact ⟨Nat.le_refl _, by simp [netP, exFs, D.belL, hb], fun c hc => .inl hc, [], sd', by rw [List.append_nil]⟩
        · refine ⟨by simp, by simp, fun c hc => ?_, [], .inr ⟨rfl, sd', by rw [List.append_nil]⟩⟩
          rcases List.mem_or_eq_of_mem_set hc with hc | rfl
          · exact .inl hc
          · refine .inr ?_
            show D.belL _ _
            rw [List.length_set]
            exact ⟨okv_bel vi, okv_bel vl, okv_bel va, okv_bel vo, trivial⟩
      · trivial
    · trivial
  · trivial
end
end Fx

namespace Fx
open PySem PySem.Spec PyProof.Rows L2
noncomputable abbrev bb__law_start : MS := (mRet (mLst (mCons (mVar 0) (mCons (mC (.int 0)) (mCons (mC (.int 0)) (mCons (mC (.int 7)) mNil))))))
noncomputable abbrev bb__law_pick : MS := (mSeq (mIf (mAnd (mTst (mBin oEq (mBin oIxA (mVar 0) (mC (.int 2))) (mC (.int 0)))) (mTst (mBin oLt (mBin oIxA (mVar 0) (mC (.int 1))) (mB oLenA (mCons (mBin oIxA (mVar 0) (mC (.int 0))) mNil)))))
  (mSeq (mSet 2 (mB oAbs (mCons (mBin oIxA (mBin oIxA (mVar 0) (mC (.int 0))) (mBin oIxA (mVar 0) (mC (.int 1)))) mNil)))
    (mSeq (mAsg (gSubA (mVar 0) (mC (.int 1))) (mBin oAdd (mBin oIxA (mVar 0) (mC (.int 1))) (mC (.int 1))))
    (mIf (mTst (mBin oGe (mVar 2) (mBin oPow (mC (.int 10)) (mC (.int 18)))))
    (mAsg (gSubA (mVar 0) (mC (.int 2))) (mVar 2))
    (mAsg (gSubA (mVar 0) (mC (.int 3))) (mBin oAdd (mBin oMod (mB oIntS (mCons (mBin oAdd (mBin oMulL (mBin oIxA (mVar 0) (mC (.int 3))) (mC (.int 48271))) (mVar 2)) mNil)) (mC (.int 2147483646))) (mC (.int 1)))))))
  mNext)
  (mSeq (mIf (mTst (mBin oGt (mBin oIxA (mVar 0) (mC (.int 2))) (mC (.int 0))))
  (mSeq (mSet 3 (mBin oMod (mB oIntS (mCons (mBin oIxA (mVar 0) (mC (.int 2))) mNil)) (mVar 1)))
    (mSeq (mAsg (gSubA (mVar 0) (mC (.int 2))) (mBin oDiv (mBin oIxA (mVar 0) (mC (.int 2))) (mVar 1)))
    (mRet (mVar 3))))
  mNext)
  (mSeq (mAsg (gSubA (mVar 0) (mC (.int 3))) (mBin oMod (mB oIntS (mCons (mBin oMulL (mBin oIxA (mVar 0) (mC (.int 3))) (mC (.int 48271))) mNil)) (mC (.int 2147483647))))
  (mRet (mBin oMod (mB oIntS (mCons (mBin oAdd (mBin oDiv (mBin oIxA (mVar 0) (mC (.int 3))) (mC (.int 5))) (mBin oMod (mB oIntS (mCons (mBin oMulL (mBin oIxA (mVar 0) (mC (.int 3))) (mBin oIxA (mVar 0) (mC (.int 3)))) mNil)) (mC (.int 2147483629)))) mNil)) (mVar 1))))))
end Fx

namespace Fx
open PySem PySem.Spec PyProof.Rows L2
/-! ### _law_start, _law_pick, as thirteen laws have them -/
open Classical in
noncomputable def m__law_start : List D → List Cell → Res D := fun ds S => match ds with
  | [d] => if d.bel S.length then .ok (.loc S.length) (S ++ [.lst [d, .int 0, .int 0, .int 7]]) else .stk
  | _ => .stk
/-- the first half: what is taken from the script -/
def pick1 (ns : List Int) (p : Nat) (r s : Int) : Nat × Int × Int :=
  if r = 0 ∧ p < ns.length then
    (if 10 ^ 18 ≤ cellV ns p then (p + 1, cellV ns p, s) else (p + 1, 0, (s * 48271 + cellV ns p) % 2147483646 + 1))
  else (p, r, s)
def pick2 (x : Nat × Int × Int) (lim : Int) : Int × Nat × Int × Int :=
  if 0 < x.2.1 then (x.2.1 % lim, x.1, x.2.1 / lim, x.2.2)
  else (((x.2.2 * 48271 % 2147483647) / 5 + (x.2.2 * 48271 % 2147483647) * (x.2.2 * 48271 % 2147483647) % 2147483629) % lim, x.1, x.2.1, x.2.2 * 48271 % 2147483647)
def pickV (ns : List Int) (p : Nat) (r s lim : Int) : Int × Nat × Int × Int := pick2 (pick1 ns p r s) lim
/-- the script's numbers, as the first thing of the state holds them -/
def scrD (S : List Cell) (n : Nat) : D → Option (List Int)
  | .cst l => intsD l
  | .loc k => if k = n then none else (match S[k]? with | some (.lst l) => intsD l | _ => none)
  | _ => none
def pickAt (S : List Cell) (n : Nat) : Option (D × List Int × Nat × Int × Int) := match S[n]? with
  | some (.lst [c, .int p, .int r, .int s]) => match scrD S n c with
    | some ns => if 0 ≤ p ∧ 0 ≤ r ∧ 0 ≤ s ∧ s < 2147483648 then some (c, ns, p.toNat, r, s) else none
    | none => none
  | _ => none
def m__law_pick : List D → List Cell → Res D := fun ds S => match ds with
  | [.loc n, .int lim] => match pickAt S n with
    | some (c, ns, p, r, s) => if 0 < lim ∧ lim < 1073741824 then
        .ok (.int (pickV ns p r s lim).1) (S.set n (.lst [c, .int (pickV ns p r s lim).2.1, .int (pickV ns p r s lim).2.2.1, .int (pickV ns p r s lim).2.2.2])) else .stk
    | none => .stk
  | _ => .stk
mutual
theorem D.bel_mono {n m : Nat} (h : n ≤ m) : ∀ {d : D}, d.bel n → d.bel m
  | .non, _ => by simp
  | .bl _, _ => by simp
  | .int _, _ => by simp
  | .str _, _ => by simp
  | .tup l, q => by rw [bel_tup] at q ⊢; exact D.belL_mono h q
  | .cst l, q => by rw [bel_cst] at q ⊢; exact D.belL_mono h q
  | .loc k, q => by rw [bel_loc] at q ⊢; omega
  | .adr _, _ => by unfold D.bel; trivial
  | .lam _ _ _, _ => by unfold D.bel; trivial
theorem D.belL_mono {n m : Nat} (h : n ≤ m) : ∀ {l : List D}, D.belL n l → D.belL m l
  | [], _ => trivial
  | d :: l, q => ⟨D.bel_mono h q.1, D.belL_mono h q.2⟩
end
section
variable {S : List Cell}
theorem scrD_loc {n k : Nat} {ns : List Int} (h : scrD S n (.loc k) = some ns) : k ≠ n ∧ S[k]? = some (.lst (ns.map D.int)) := by
  have h : (if k = n then none else (match S[k]? with | some (.lst l) => intsD l | _ => none)) = some ns := h
  by_cases hk : k = n
  · rw [if_pos hk] at h; cases h
  · rw [if_neg hk] at h
    split at h
    · rename_i l e
      rw [← intsD_eq h]
      exact ⟨hk, e⟩
    · cases h
theorem scrD_loc' {n k : Nat} {ns : List Int} (hk : k ≠ n) (h : S[k]? = some (.lst (ns.map D.int))) : scrD S n (.loc k) = some ns := by
  show (if k = n then none else (match S[k]? with | some (.lst l) => intsD l | _ => none)) = some ns
  rw [if_neg hk, h]
  exact intsD_map ns
theorem ref_start (ds : List D) (S : List Cell) (h : ds.length = 1) : RefR S (m__law_start ds S) (bb__law_start (startD 1 ds) S) := by
  match ds, h with
  | [d], _ =>
    unfold m__law_start
    simp only
    split
    · rename_i hd
      have h4 : 4 ≤ sizeLine := line_le (by omega)
      refine ⟨by simp, by simp, fun c hc => ?_, [], .inl ?_⟩
      · rcases List.mem_append.mp hc with hc | hc
        · exact .inl hc
        · rw [List.mem_singleton] at hc
          subst hc
          refine .inr ?_
          have hb : d.bel (S ++ [Cell.lst [d, .int 0, .int 0, .int 7]]).length := D.bel_mono (by simp) hd
          exact ⟨hb, by simp, by simp, by simp, trivial⟩
      · simp [startD, h4]
    · trivial
theorem pickAt_some {n : Nat} {c : D} {ns : List Int} {p : Nat} {r s : Int} (h : pickAt S n = some (c, ns, p, r, s)) :
    S[n]? = some (.lst [c, .int p, .int r, .int s]) ∧ scrD S n c = some ns ∧ 0 ≤ r ∧ 0 ≤ s ∧ s < 2147483648 := by
  unfold pickAt at h
  split at h
  · rename_i c' p' r' s' e1
    split at h
    · rename_i ns' e2
      split at h
      · rename_i hc
        cases h
        refine ⟨?_, e2, hc.2.1, hc.2.2.1, hc.2.2.2⟩
        rw [e1, Int.toNat_of_nonneg hc.1]
      · cases h
    · cases h
  · cases h
theorem scrD_set {n : Nat} {c : D} {ns : List Int} {x : Cell} (h : scrD S n c = some ns) : scrD (S.set n x) n c = some ns := by
  cases c with
  | cst l => exact h
  | loc k =>
    obtain ⟨hk, e⟩ := scrD_loc h
    exact scrD_loc' hk (by rw [List.getElem?_set_ne (Ne.symm hk)]; exact e)
  | _ => cases h
theorem scrD_len {n : Nat} {c : D} {ns : List Int} (h : scrD S n c = some ns) : oLenA [c] S = .ok (.int ns.length) S := by
  cases c with
  | cst l => rw [oLenA_cst, intsD_eq (show intsD l = some ns from h)]; simp
  | loc k =>
    obtain ⟨_, e⟩ := scrD_loc h
    rw [oLenA_loc, e]
    simp
  | _ => cases h
theorem scrD_ix {n : Nat} {c : D} {ns : List Int} {p : Nat} (h : scrD S n c = some ns) (hp : p < ns.length) : oIxA c (.int (p : Nat)) S = .ok (.int ns[p]) S := by
  have eg : (ns.map D.int)[p]? = some (.int ns[p]) := by simp [hp]
  cases c with
  | cst l => rw [oIxA_cst, intsD_eq (show intsD l = some ns from h), atI_nat', eg]; rfl
  | loc k =>
    obtain ⟨_, e⟩ := scrD_loc h
    rw [oIxA_loc, e]
    simp only [atI_nat', eg, optR_some]
  | _ => cases h
theorem seq_nxS {a b : MS} {sd sd1 : Sl} {S1 : List Cell} (h : a sd S = .nx sd1 S1) : mSeq a b sd S = b sd1 S1 := by
  simp only [mSeq_ev, h]
/-- the state's cell, read and written -/
def TT (S : List Cell) (n : Nat) (c : D) (p r s : Int) : List Cell := S.set n (.lst [c, .int p, .int r, .int s])
theorem bin_ok {o : O2} {a b : ME} {sd : Sl} {d e : D} {r : Res D} (ha : a sd S = .ok d S) (hb : b sd S = .ok e S) (ho : o d e S = r) : mBin o a b sd S = r := by
  simp only [mBin_ev, ha, hb, bind_ok, ho]
theorem mb1 {f : OC} {a : ME} {sd : Sl} {d : D} {r : Res D} (ha : a sd S = .ok d S) (hf : f [d] S = r) : mB f (mCons a mNil) sd S = r := by
  simp only [mB_ev, mCons_ev, mNil_ev, ha, bind_ok, hf]
theorem tst_ok {m : ME} {sd : Sl} {b : Bool} (h : m sd S = .ok (.bl b) S) : mTst m sd S = .ok b S := by
  simp only [mTst_ev, h, bind_ok, blD_bl, optR_some]
theorem set_ok {m : ME} {i : Nat} {sd : Sl} {d : D} (h : m sd S = .ok d S) : mSet i m sd S = .nx (sd.set i (some d)) S := by
  simp only [mSet_ev, h, thenS_ok]
theorem tt_ix {n : Nat} {c : D} {p r s : Int} {sd : Sl} (hl : n < S.length) (h0 : sd[0]? = some (some (.loc n))) {i : Int} (j : Nat) {d : D} (hj : [c, D.int p, .int r, .int s][j]? = some d) (hi : i = (j : Nat) := by rfl) : (mBin oIxA (mVar 0) (mC (.int i))) sd (TT S n c p r s) = .ok d (TT S n c p r s) := by
  subst hi
  have : (TT S n c p r s)[n]? = some (.lst [c, .int p, .int r, .int s]) := by unfold TT; rw [List.getElem?_set_self hl]
  simp only [mBin_ev, mVar_ev, h0, bind_ok, mC_ev, oIxA_loc, this, atI_nat', hj, optR_some]
theorem tt_set {n : Nat} {c : D} {p r s : Int} {sd : Sl} {m : ME} {v : D} (hl : n < S.length) (h0 : sd[0]? = some (some (.loc n))) {i : Int} (j : Nat) (hj : j < 4) (hm : m sd (TT S n c p r s) = .ok v (TT S n c p r s)) (hi : i = (j : Nat) := by rfl) :
    mAsg (gSubA (mVar 0) (mC (.int i))) m sd (TT S n c p r s) = .nx sd (S.set n (.lst ([c, D.int p, .int r, .int s].set j v))) := by
  subst hi
  have hg : (TT S n c p r s)[n]? = some (.lst [c, .int p, .int r, .int s]) := by unfold TT; rw [List.getElem?_set_self hl]
  have hix : ixN 4 (j : Int) = some j := by
    unfold ixN
    have e1 : ¬ ((j : Int) < 0) := by omega
    simp [e1]; omega
  simp only [mAsg_ev, hm, thenS_ok, gSubA_ev, mVar_ev, h0, bind_ok, mC_ev, setD_loc, hg, List.length_cons, List.length_nil, Nat.zero_add, Nat.reduceAdd, hix]
  simp [TT, List.set_set]
theorem ref_pick (ds : List D) (S : List Cell) (h : ds.length = 2) : RefR S (m__law_pick ds S) (bb__law_pick (startD 4 ds) S) := by
  unfold m__law_pick
  split
  · rename_i n lim
    split
    · rename_i c ns p r s ht
      split
      · rename_i hm
        obtain ⟨hS, hK, hr0, hs0, hs1⟩ := pickAt_some ht
        obtain ⟨hl, hge⟩ := (List.getElem?_eq_some_iff.mp hS)
        have hbc : c.bel S.length := by
          cases c with
          | cst l =>
            have := intsD_eq (show intsD l = some ns from hK)
            rw [this, bel_cst]
            clear this hK hS ht hge
            induction ns with
            | nil => trivial
            | cons x xs ih => exact ⟨by simp, ih⟩
          | loc k =>
            obtain ⟨_, e⟩ := scrD_loc hK
            rw [bel_loc]
            exact (List.getElem?_eq_some_iff.mp e).1
          | _ => cases hK
        refine ⟨by simp, by simp, fun x hx => ?_, [], .inl ?_⟩
        · rcases List.mem_or_eq_of_mem_set hx with hx | rfl
          · exact .inl hx
          · refine .inr ?_
            rw [List.length_set]
            exact ⟨hbc, by simp, by simp, by simp, trivial⟩
        · rw [List.append_nil]
          have hST : S = TT S n c p r s := by unfold TT; rw [← hge]; simp
          have hst : startD 4 [D.loc n, .int lim] = [some (.loc n), some (.int lim), none, none] := rfl
          rw [hst]
          have hlim : ∀ i, cDiv i lim = true := fun i => by unfold cDiv; simp; omega
          have hlim0 : decide (0 < lim) = true := by simp; omega
          have e18 : (10 : Int) ^ (18 : Int).toNat = 1000000000000000000 := by decide
          have hpw : cPow 10 18 = true := by decide
          have x1 : ∀ (x2 x3 : Option D) (Z : List Cell), (mVar 1) [some (.loc n), some (.int lim), x2, x3] Z = .ok (.int lim) Z := fun x2 x3 Z => rfl
          -- the second half
          have half2 : ∀ (x : Nat × Int × Int) (x2 : Option D), 0 ≤ x.2.2 → x.2.2 < 2147483648 →
              (mSeq (mIf (mTst (mBin oGt (mBin oIxA (mVar 0) (mC (.int 2))) (mC (.int 0))))
              (mSeq (mSet 3 (mBin oMod (mB oIntS (mCons (mBin oIxA (mVar 0) (mC (.int 2))) mNil)) (mVar 1)))
                (mSeq (mAsg (gSubA (mVar 0) (mC (.int 2))) (mBin oDiv (mBin oIxA (mVar 0) (mC (.int 2))) (mVar 1)))
                (mRet (mVar 3))))
              mNext)
              (mSeq (mAsg (gSubA (mVar 0) (mC (.int 3))) (mBin oMod (mB oIntS (mCons (mBin oMulL (mBin oIxA (mVar 0) (mC (.int 3))) (mC (.int 48271))) mNil)) (mC (.int 2147483647))))
              (mRet (mBin oMod (mB oIntS (mCons (mBin oAdd (mBin oDiv (mBin oIxA (mVar 0) (mC (.int 3))) (mC (.int 5))) (mBin oMod (mB oIntS (mCons (mBin oMulL (mBin oIxA (mVar 0) (mC (.int 3))) (mBin oIxA (mVar 0) (mC (.int 3)))) mNil)) (mC (.int 2147483629)))) mNil)) (mVar 1)))))
              [some (.loc n), some (.int lim), x2, none] (TT S n c x.1 x.2.1 x.2.2) = .rt (.int (pick2 x lim).1) (TT S n c (pick2 x lim).2.1 (pick2 x lim).2.2.1 (pick2 x lim).2.2.2) := by
            intro x x2 hx0 hx1
            obtain ⟨px, rx, sx⟩ := x
            simp only at hx0 hx1 ⊢
            unfold pick2
            simp only
            have i2 : ∀ (sd : Sl), sd[0]? = some (some (.loc n)) → (mBin oIxA (mVar 0) (mC (.int 2))) sd (TT S n c px rx sx) = .ok (.int rx) (TT S n c px rx sx) := fun sd h0 => tt_ix hl h0 2 rfl
            have i3 : ∀ (y : Int) (sd : Sl), sd[0]? = some (some (.loc n)) → (mBin oIxA (mVar 0) (mC (.int 3))) sd (TT S n c px rx y) = .ok (.int y) (TT S n c px rx y) := fun y sd h0 => tt_ix hl h0 3 rfl
            have tst : (mTst (mBin oGt (mBin oIxA (mVar 0) (mC (.int 2))) (mC (.int 0)))) [some (.loc n), some (.int lim), x2, none] (TT S n c px rx sx) = .ok (decide (0 < rx)) (TT S n c px rx sx) :=
              tst_ok (bin_ok (i2 _ rfl) rfl rfl)
            by_cases hr : 0 < rx
            · rw [if_pos hr]
              have hgoal : (mSeq (mSet 3 (mBin oMod (mB oIntS (mCons (mBin oIxA (mVar 0) (mC (.int 2))) mNil)) (mVar 1)))
                  (mSeq (mAsg (gSubA (mVar 0) (mC (.int 2))) (mBin oDiv (mBin oIxA (mVar 0) (mC (.int 2))) (mVar 1)))
                  (mRet (mVar 3)))) [some (.loc n), some (.int lim), x2, none] (TT S n c px rx sx) = .rt (.int (rx % lim)) (TT S n c px (rx / lim) sx) := by
                have s1 : (mSet 3 (mBin oMod (mB oIntS (mCons (mBin oIxA (mVar 0) (mC (.int 2))) mNil)) (mVar 1))) [some (.loc n), some (.int lim), x2, none] (TT S n c px rx sx) = .nx [some (.loc n), some (.int lim), x2, some (.int (rx % lim))] (TT S n c px rx sx) :=
                  set_ok (bin_ok (mb1 (i2 _ rfl) rfl) rfl (by simp only [oMod, oInt_ev, hlim0, if_true]))
                have st := tt_set (S := S) (n := n) (c := c) (p := px) (r := rx) (s := sx) (i := 2) (sd := [some (.loc n), some (.int lim), x2, some (.int (rx % lim))]) (m := mBin oDiv (mBin oIxA (mVar 0) (mC (.int 2))) (mVar 1)) (v := .int (rx / lim)) hl rfl 2 (by omega)
                  (bin_ok (i2 _ rfl) rfl (by simp only [oDiv, oInt_ev, hlim, if_true]))
                rw [seq_nxS s1, seq_nxS st]
                rfl
              rw [mSeq_ev, mIf_ev, tst]
              simp only [thenS_ok, hr, decide_true, if_true, hgoal]
            · rw [if_neg hr]
              have s0 : ∀ a : MS, (mIf (mTst (mBin oGt (mBin oIxA (mVar 0) (mC (.int 2))) (mC (.int 0)))) a mNext) [some (.loc n), some (.int lim), x2, none] (TT S n c px rx sx) = .nx [some (.loc n), some (.int lim), x2, none] (TT S n c px rx sx) := fun a => by
                rw [mIf_ev, tst]
                simp only [thenS_ok, hr, decide_false, Bool.false_eq_true, if_false, mNext_ev]
              rw [seq_nxS (s0 _)]
              have m1 : cMul sx 48271 = true := by unfold cMul c64; simp
              have st := tt_set (S := S) (n := n) (c := c) (p := px) (r := rx) (s := sx) (i := 3) (sd := [some (.loc n), some (.int lim), x2, none]) (m := mBin oMod (mB oIntS (mCons (mBin oMulL (mBin oIxA (mVar 0) (mC (.int 3))) (mC (.int 48271))) mNil)) (mC (.int 2147483647))) (v := .int (sx * 48271 % 2147483647)) hl rfl 3 (by omega)
                (bin_ok (mb1 (bin_ok (i3 _ _ rfl) rfl (by rw [oMulL_int, m1, if_pos rfl])) rfl) rfl rfl)
              rw [seq_nxS st]
              have e3 : S.set n (.lst ([c, D.int px, .int rx, .int sx].set 3 (.int (sx * 48271 % 2147483647)))) = TT S n c px rx (sx * 48271 % 2147483647) := rfl
              rw [e3]
              generalize hy : sx * 48271 % 2147483647 = y
              have y0 : 0 ≤ y := by rw [← hy]; exact Int.emod_nonneg _ (by decide)
              have y1 : y < 2147483647 := by rw [← hy]; exact Int.emod_lt_of_pos _ (by decide)
              have m2 : cMul y y = true := by unfold cMul c64; simp; omega
              exact ret_of (bin_ok (mb1 (bin_ok (bin_ok (i3 y _ rfl) rfl rfl) (bin_ok (mb1 (bin_ok (i3 y _ rfl) (i3 y _ rfl) (by rw [oMulL_int, m2, if_pos rfl])) rfl) rfl rfl) rfl) rfl) rfl (by simp only [oMod, oInt_ev, hlim0, if_true]))
          have fin : ∀ (x : Nat × Int × Int) (x2 : Option D), 0 ≤ x.2.2 → x.2.2 < 2147483648 → pick1 ns p r s = x →
              (mIf (mAnd (mTst (mBin oEq (mBin oIxA (mVar 0) (mC (.int 2))) (mC (.int 0)))) (mTst (mBin oLt (mBin oIxA (mVar 0) (mC (.int 1))) (mB oLenA (mCons (mBin oIxA (mVar 0) (mC (.int 0))) mNil)))))
                (mSeq (mSet 2 (mB oAbs (mCons (mBin oIxA (mBin oIxA (mVar 0) (mC (.int 0))) (mBin oIxA (mVar 0) (mC (.int 1)))) mNil)))
                  (mSeq (mAsg (gSubA (mVar 0) (mC (.int 1))) (mBin oAdd (mBin oIxA (mVar 0) (mC (.int 1))) (mC (.int 1))))
                  (mIf (mTst (mBin oGe (mVar 2) (mBin oPow (mC (.int 10)) (mC (.int 18)))))
                  (mAsg (gSubA (mVar 0) (mC (.int 2))) (mVar 2))
                  (mAsg (gSubA (mVar 0) (mC (.int 3))) (mBin oAdd (mBin oMod (mB oIntS (mCons (mBin oAdd (mBin oMulL (mBin oIxA (mVar 0) (mC (.int 3))) (mC (.int 48271))) (mVar 2)) mNil)) (mC (.int 2147483646))) (mC (.int 1)))))))
                mNext) [some (.loc n), some (.int lim), none, none] (TT S n c p r s) = .nx [some (.loc n), some (.int lim), x2, none] (TT S n c x.1 x.2.1 x.2.2) →
              bb__law_pick [some (.loc n), some (.int lim), none, none] (TT S n c p r s) = .rt (.int (pickV ns p r s lim).1) (S.set n (.lst [c, .int (pickV ns p r s lim).2.1, .int (pickV ns p r s lim).2.2.1, .int (pickV ns p r s lim).2.2.2])) := by
            intro x x2 hx0 hx1 hx e
            unfold bb__law_pick
            rw [seq_nxS e, half2 x x2 hx0 hx1]
            unfold pickV
            rw [hx]
            rfl
          have hgo : bb__law_pick [some (.loc n), some (.int lim), none, none] (TT S n c p r s) = .rt (.int (pickV ns p r s lim).1) (S.set n (.lst [c, .int (pickV ns p r s lim).2.1, .int (pickV ns p r s lim).2.2.1, .int (pickV ns p r s lim).2.2.2])) := by
            have g0 : ∀ (y : Int) (sd : Sl), sd[0]? = some (some (.loc n)) → (mBin oIxA (mVar 0) (mC (.int 0))) sd (TT S n c y r s) = .ok c (TT S n c y r s) := fun y sd h0 => tt_ix hl h0 0 rfl
            have g1 : ∀ (y : Int) (sd : Sl), sd[0]? = some (some (.loc n)) → (mBin oIxA (mVar 0) (mC (.int 1))) sd (TT S n c y r s) = .ok (.int y) (TT S n c y r s) := fun y sd h0 => tt_ix hl h0 1 rfl
            have g2 : ∀ (y : Int) (sd : Sl), sd[0]? = some (some (.loc n)) → (mBin oIxA (mVar 0) (mC (.int 2))) sd (TT S n c y r s) = .ok (.int r) (TT S n c y r s) := fun y sd h0 => tt_ix hl h0 2 rfl
            have g3 : ∀ (y : Int) (sd : Sl), sd[0]? = some (some (.loc n)) → (mBin oIxA (mVar 0) (mC (.int 3))) sd (TT S n c y r s) = .ok (.int s) (TT S n c y r s) := fun y sd h0 => tt_ix hl h0 3 rfl
            have hKT : scrD (TT S n c p r s) n c = some ns := scrD_set hK
            have q0 : (mTst (mBin oEq (mBin oIxA (mVar 0) (mC (.int 2))) (mC (.int 0)))) [some (.loc n), some (.int lim), none, none] (TT S n c p r s) = .ok (r == 0) (TT S n c p r s) := tst_ok (bin_ok (g2 _ _ rfl) rfl (oEq_int _ _))
            have q1 : (mTst (mBin oLt (mBin oIxA (mVar 0) (mC (.int 1))) (mB oLenA (mCons (mBin oIxA (mVar 0) (mC (.int 0))) mNil)))) [some (.loc n), some (.int lim), none, none] (TT S n c p r s) = .ok (decide ((p : Int) < (ns.length : Int))) (TT S n c p r s) :=
              tst_ok (bin_ok (g1 _ _ rfl) (mb1 (g0 _ _ rfl) (scrD_len hKT)) (oLt_int _ _))
            have test : (mAnd (mTst (mBin oEq (mBin oIxA (mVar 0) (mC (.int 2))) (mC (.int 0)))) (mTst (mBin oLt (mBin oIxA (mVar 0) (mC (.int 1))) (mB oLenA (mCons (mBin oIxA (mVar 0) (mC (.int 0))) mNil))))) [some (.loc n), some (.int lim), none, none] (TT S n c p r s) = .ok (decide (r = 0 ∧ p < ns.length)) (TT S n c p r s) := by
              rw [mAnd_ev, q0]
              simp only [bind_ok]
              by_cases hr : r = 0
              · rw [if_pos (by simp [hr]), q1]
                simp [hr]
              · rw [if_neg (by simp [hr])]
                simp [hr]
            by_cases hc : r = 0 ∧ p < ns.length
            · have hp := hc.2
              have hr00 := hc.1
              have eabs : (if ns[p] < 0 then -ns[p] else ns[p]) = cellV ns p := by
                unfold cellV
                rw [show ns[p]? = some ns[p] by simp [hp]]
                simp only
                split <;> omega
              have s1 : (mSet 2 (mB oAbs (mCons (mBin oIxA (mBin oIxA (mVar 0) (mC (.int 0))) (mBin oIxA (mVar 0) (mC (.int 1)))) mNil))) [some (.loc n), some (.int lim), none, none] (TT S n c p r s) = .nx [some (.loc n), some (.int lim), some (.int (cellV ns p)), none] (TT S n c p r s) :=
                set_ok (mb1 (bin_ok (g0 _ _ rfl) (g1 _ _ rfl) (scrD_ix hKT hp)) (by rw [oAbs_int, eabs]))
              have s2 : mAsg (gSubA (mVar 0) (mC (.int 1))) (mBin oAdd (mBin oIxA (mVar 0) (mC (.int 1))) (mC (.int 1))) [some (.loc n), some (.int lim), some (.int (cellV ns p)), none] (TT S n c p r s) = .nx [some (.loc n), some (.int lim), some (.int (cellV ns p)), none] (TT S n c (p + 1 : Nat) r s) :=
                tt_set (S := S) (n := n) (c := c) (p := p) (r := r) (s := s) (v := .int (p + 1)) hl rfl 1 (by omega) (bin_ok (g1 p _ rfl) rfl (oAdd_int _ _))
              have t2 : (mTst (mBin oGe (mVar 2) (mBin oPow (mC (.int 10)) (mC (.int 18))))) [some (.loc n), some (.int lim), some (.int (cellV ns p)), none] (TT S n c (p + 1 : Nat) r s) = .ok (decide (1000000000000000000 ≤ cellV ns p)) (TT S n c (p + 1 : Nat) r s) :=
                tst_ok (bin_ok (d := .int (cellV ns p)) (e := .int 1000000000000000000) rfl (bin_ok rfl rfl (by simp only [oPow, oInt_ev, hpw, e18, if_true])) rfl)
              by_cases hbig : 1000000000000000000 ≤ cellV ns p
              · refine fin (p + 1, cellV ns p, s) (some (.int (cellV ns p))) hs0 hs1 (by unfold pick1; rw [if_pos hc, if_pos (by simpa using hbig)]) ?_
                rw [mIf_ev, test]
                simp only [thenS_ok, hc, decide_true, and_self, if_true]
                rw [hr00] at s1 s2 t2
                rw [seq_nxS s1, seq_nxS s2, mIf_ev, t2]
                simp only [thenS_ok, hbig, decide_true, if_true]
                exact tt_set (S := S) (n := n) (c := c) (p := ((p + 1 : Nat) : Int)) (r := 0) (s := s) (sd := [some (.loc n), some (.int lim), some (.int (cellV ns p)), none]) (m := mVar 2) (v := .int (cellV ns p)) hl rfl 2 (by omega) (by simp)
              · refine fin (p + 1, 0, (s * 48271 + cellV ns p) % 2147483646 + 1) (some (.int (cellV ns p))) (by
                  have := Int.emod_nonneg (s * 48271 + cellV ns p) (show (2147483646 : Int) ≠ 0 by decide)
                  show 0 ≤ (s * 48271 + cellV ns p) % 2147483646 + 1
                  omega) (by
                  have := Int.emod_lt_of_pos (s * 48271 + cellV ns p) (show (0 : Int) < 2147483646 by decide)
                  show (s * 48271 + cellV ns p) % 2147483646 + 1 < 2147483648
                  omega) (by unfold pick1; rw [if_pos hc, if_neg (by simpa using hbig)]) ?_
                rw [mIf_ev, test]
                simp only [thenS_ok, hc, decide_true, and_self, if_true]
                rw [hr00] at s1 s2 t2 g3
                rw [seq_nxS s1, seq_nxS s2, mIf_ev, t2]
                simp only [thenS_ok, hbig, decide_false, Bool.false_eq_true, if_false]
                have m1 : cMul s 48271 = true := by unfold cMul c64; simp
                exact tt_set (S := S) (n := n) (c := c) (p := ((p + 1 : Nat) : Int)) (r := 0) (s := s) (sd := [some (.loc n), some (.int lim), some (.int (cellV ns p)), none]) (v := .int ((s * 48271 + cellV ns p) % 2147483646 + 1)) hl rfl 3 (by omega)
                  (bin_ok (bin_ok (mb1 (bin_ok (bin_ok (g3 _ _ rfl) rfl (by rw [oMulL_int, m1, if_pos rfl])) rfl (oAdd_int _ _)) rfl) rfl rfl) rfl (oAdd_int _ _))
            · refine fin (p, r, s) none hs0 hs1 (by unfold pick1; rw [if_neg hc]) ?_
              rw [mIf_ev, test]
              simp only [thenS_ok, hc, decide_false, Bool.false_eq_true, if_false, mNext_ev]
          rw [← hST] at hgo
          exact hgo
      · trivial
    · trivial
  · trivial
end
end Fx

namespace Fx
open PySem PySem.Spec PyProof.Rows L2
/-! ### the state in a law's body: behind the base B, then what the body made -/
def bT (B : List Cell) (c : D) (st : Tp) (R : List Cell) : List Cell := B ++ (.lst [c, .int st.1, .int st.2.1, .int st.2.2] :: R)
def okS (st : Tp) : Prop := 0 ≤ st.2.1 ∧ 0 ≤ st.2.2 ∧ st.2.2 < 2147483648
/-- the script as the law has it: the module's own list, or one of the base -/
def scrOk (B : List Cell) (c : D) (ns : List Int) : Prop := c = .cst (ns.map D.int) ∨ ∃ k, c = .loc k ∧ B[k]? = some (.lst (ns.map D.int))
def pk (ns : List Int) (st : Tp) (lim : Int) : Int × Tp := pickV ns st.1 st.2.1 st.2.2 lim
theorem bT_at {B : List Cell} {c : D} {st : Tp} {R : List Cell} : (bT B c st R)[B.length]? = some (.lst [c, .int st.1, .int st.2.1, .int st.2.2]) := by
  unfold bT
  simp
theorem bT_len {B : List Cell} {c : D} {st : Tp} {R : List Cell} : (bT B c st R).length = B.length + 1 + R.length := by
  unfold bT
  simp; omega
theorem bT_R {B : List Cell} {c : D} {st : Tp} {R : List Cell} (i : Nat) : (bT B c st R)[B.length + 1 + i]? = R[i]? := by
  unfold bT
  rw [List.getElem?_append_right (by omega)]
  rw [show B.length + 1 + i - B.length = i + 1 by omega]
  rfl
theorem bT_B {B : List Cell} {c : D} {st : Tp} {R : List Cell} {i : Nat} (h : i < B.length) : (bT B c st R)[i]? = B[i]? := by
  unfold bT
  rw [List.getElem?_append_left h]
theorem bT_app {B : List Cell} {c : D} {st : Tp} {R R' : List Cell} : bT B c st R ++ R' = bT B c st (R ++ R') := by
  unfold bT
  simp
theorem scr_of {B : List Cell} {c : D} {ns : List Int} {st : Tp} {R : List Cell} (h : scrOk B c ns) : scrD (bT B c st R) B.length c = some ns := by
  rcases h with rfl | ⟨k, rfl, e⟩
  · exact intsD_map ns
  · have hl := (List.getElem?_eq_some_iff.mp e).1
    exact scrD_loc' (by omega) (by rw [bT_B hl]; exact e)
theorem scr_bel {B : List Cell} {c : D} {ns : List Int} (h : scrOk B c ns) : c.bel B.length := by
  rcases h with rfl | ⟨k, rfl, e⟩
  · rw [bel_cst]
    induction ns with
    | nil => trivial
    | cons x xs ih => exact ⟨by simp, ih⟩
  · rw [bel_loc]
    exact (List.getElem?_eq_some_iff.mp e).1
theorem pk_ok {ns : List Int} {st : Tp} {lim : Int} (hm : 0 < lim) (h : okS st) : 0 ≤ (pk ns st lim).1 ∧ (pk ns st lim).1 < lim ∧ okS (pk ns st lim).2 := by
  obtain ⟨p, r, s⟩ := st
  obtain ⟨h1, h2, h3⟩ := h
  have q1 : ∀ x : Int, 0 ≤ x % lim ∧ x % lim < lim := fun x => ⟨Int.emod_nonneg _ (by omega), Int.emod_lt_of_pos _ hm⟩
  have hc : 0 ≤ cellV ns p := by
    unfold cellV
    split <;> omega
  have o1 : 0 ≤ (pick1 ns p r s).2.1 ∧ 0 ≤ (pick1 ns p r s).2.2 ∧ (pick1 ns p r s).2.2 < 2147483648 := by
    unfold pick1
    simp only at h1 h2 h3
    split
    · split
      · exact ⟨hc, h2, h3⟩
      · have a1 := Int.emod_nonneg (s * 48271 + cellV ns p) (show (2147483646 : Int) ≠ 0 by decide)
        have a2 := Int.emod_lt_of_pos (s * 48271 + cellV ns p) (show (0 : Int) < 2147483646 by decide)
        refine ⟨by simp, ?_, ?_⟩
        · show 0 ≤ (s * 48271 + cellV ns p) % 2147483646 + 1
          omega
        · show (s * 48271 + cellV ns p) % 2147483646 + 1 < 2147483648
          omega
    · exact ⟨h1, h2, h3⟩
  unfold pk pickV
  simp only
  generalize pick1 ns p r s = x at o1
  obtain ⟨x1, x2, x3⟩ := o1
  unfold pick2
  split
  · exact ⟨(q1 _).1, (q1 _).2, Int.ediv_nonneg x1 (by omega), x2, x3⟩
  · have a1 := Int.emod_nonneg (x.2.2 * 48271) (show (2147483647 : Int) ≠ 0 by decide)
    have a2 := Int.emod_lt_of_pos (x.2.2 * 48271) (show (0 : Int) < 2147483647 by decide)
    exact ⟨(q1 _).1, (q1 _).2, x1, a1, by show x.2.2 * 48271 % 2147483647 < 2147483648; omega⟩
theorem m_pk {B : List Cell} {c : D} {ns : List Int} {st : Tp} {lim : Int} {R : List Cell} (hs : scrOk B c ns) (h : okS st) (hm : 0 < lim) (hm2 : lim < 1073741824) :
    m__law_pick [.loc B.length, .int lim] (bT B c st R) = .ok (.int (pk ns st lim).1) (bT B c (pk ns st lim).2 R) := by
  obtain ⟨p, r, s⟩ := st
  obtain ⟨h1, h2, h3⟩ := h
  have hp : pickAt (bT B c (p, r, s) R) B.length = some (c, ns, p, r, s) := by
    unfold pickAt
    rw [bT_at]
    simp only [scr_of hs]
    rw [if_pos ⟨Int.natCast_nonneg _, h1, h2, h3⟩]
    simp
  unfold m__law_pick
  simp only [hp]
  rw [if_pos ⟨hm, hm2⟩]
  unfold bT pk
  simp
theorem m_st {B : List Cell} {c : D} {ns : List Int} (hs : scrOk B c ns) : m__law_start [c] B = .ok (.loc B.length) (bT B c (0, 0, 7) []) := by
  unfold m__law_start
  simp only [scr_bel hs, if_true]
  rfl
/-- one draw in a call -/
theorem c_pk {B : List Cell} {c : D} {ns : List Int} {st : Tp} {lim : Int} {R : List Cell} {sd : Sl} {ml : ME} (hs : scrOk B c ns) (h : okS st) (hm : 0 < lim) (hm2 : lim < 1073741824) (h1 : sd[1]? = some (some (.loc B.length))) (hl : ml sd (bT B c st R) = .ok (.int lim) (bT B c st R)) :
    mCall m__law_pick (mCons (mVar 1) (mCons ml mNil)) sd (bT B c st R) = .ok (.int (pk ns st lim).1) (bT B c (pk ns st lim).2 R) := by
  refine call2S (d := .loc B.length) (e := .int lim) ?_ hl (m_pk hs h hm hm2)
  simp only [mVar_ev, h1]
where
  call2S {f : List D → List Cell → Res D} {a b : ME} {sd : Sl} {d e : D} {S : List Cell} {r : Res D} (h : a sd S = .ok d S) (h' : b sd S = .ok e S) (h2 : f [d, e] S = r) : mCall f (mCons a (mCons b mNil)) sd S = r := call2 h h' h2
theorem seq_exB {B : List Cell} {a b : MS} {sd sd1 : Sl} {S S1 : List Cell} {d : D} (h : a sd S = .nx sd1 S1) (h2 : ∃ J, b sd1 S1 = .rt d (B ++ J)) : ∃ J, mSeq a b sd S = .rt d (B ++ J) := by
  obtain ⟨J, e⟩ := h2
  exact ⟨J, by rw [mSeq_ev, h]; exact e⟩
/-- lists stay lists -/
def LstLe (S S' : List Cell) : Prop := ∀ n, (cellL S n).isSome = true → (cellL S' n).isSome = true
theorem LstLe.app {S T : List Cell} : LstLe S (S ++ T) := fun n h => by
  obtain ⟨xs, hx⟩ := Option.isSome_iff_exists.mp h
  rw [cellL_app hx]
  rfl
theorem LstLe.trans {S S1 S2 : List Cell} (a : LstLe S S1) (b : LstLe S1 S2) : LstLe S S2 := fun n h => b n (a n h)
theorem LstLe.bT {B : List Cell} {c c' : D} {st st' : Tp} {R R' : List Cell} (h : ∀ n, (cellL R n).isSome = true → (cellL R' n).isSome = true) : LstLe (bT B c st R) (bT B c' st' R') := fun n hn => by
  have key : ∀ {X Y : List Cell} {n : Nat}, X[n]? = Y[n]? → cellL X n = cellL Y n := fun {X Y n} e => by
    unfold cellL
    rw [e]
  by_cases h1 : n < B.length
  · rw [key (bT_B h1)] at hn
    rw [key (bT_B h1)]
    exact hn
  · by_cases h2 : n = B.length
    · subst h2
      unfold cellL
      rw [bT_at]
      rfl
    · obtain ⟨m, rfl⟩ : ∃ m, n = B.length + 1 + m := ⟨n - B.length - 1, by omega⟩
      have e1 : cellL (Fx.bT B c st R) (B.length + 1 + m) = cellL R m := by
        unfold cellL
        rw [bT_R]
      have e2 : cellL (Fx.bT B c' st' R') (B.length + 1 + m) = cellL R' m := by
        unfold cellL
        rw [bT_R]
      rw [e1] at hn
      rw [e2]
      exact h m hn
mutual
theorem okv_le {S S' : List Cell} (hl : LstLe S S') : ∀ {d : D}, okv S d = true → okv S' d = true
  | .non, _ => rfl
  | .bl _, _ => rfl
  | .int _, _ => rfl
  | .str _, h => h
  | .tup l, h => by
    rw [okv, Bool.and_eq_true] at h ⊢
    exact ⟨h.1, okvL_le hl h.2⟩
  | .loc m, h => by
    rw [okv] at h ⊢
    exact hl m h
  | .cst _, h => by cases h
  | .adr _, h => by cases h
  | .lam _ _ _, h => by cases h
theorem okvL_le {S S' : List Cell} (hl : LstLe S S') : ∀ {l : List D}, okvL S l = true → okvL S' l = true
  | [], _ => rfl
  | d :: l, h => by
    rw [okvL, Bool.and_eq_true] at h ⊢
    exact ⟨okv_le hl h.1, okvL_le hl h.2⟩
end
theorem okd_le {n : Nat} {S S' : List Cell} {d : D} (hl : LstLe S S') (h : okd n S d = true) : okd n S' d = true := by
  obtain ⟨h1, h2⟩ := okd_inv h
  exact okd_of (okv_le hl h1) h2
/-! ### rows that do not stand -/
theorem rowsGo_app {R : D → Bool} {v : D} {post : List D} : ∀ (pre : List D) (k : Nat) (kvs : List (Key × D)), (rowsGo R k pre kvs).1 = none → (R v = true → (getK (rowsGo R k pre kvs).2 (.inr (stS (rowNm v)))).isSome = true) → (rowsGo R k (pre ++ v :: post) kvs).1 = some (k + pre.length)
  | [], k, kvs, _, hv => by
    show (rowsGo R k (v :: post) kvs).1 = _
    unfold rowsGo
    rw [if_neg]
    · rfl
    · rintro ⟨h1, h2⟩
      have := hv h1
      rw [show (rowsGo R k [] kvs).2 = kvs from rfl, h2] at this
      cases this
  | r :: pre, k, kvs, h, hv => by
    rw [List.cons_append]
    unfold rowsGo at h hv ⊢
    by_cases hc : R r = true ∧ (getK kvs (.inr (stS (rowNm r)))).isSome = false
    · rw [if_pos hc] at h hv ⊢
      rw [rowsGo_app pre _ _ h hv, List.length_cons]
      congr 1
      omega
    · rw [if_neg hc] at h
      cases h
theorem rowsGo_pre {R : D → Bool} {post : List D} : ∀ (pre : List D) (k : Nat) (kvs : List (Key × D)), (rowsGo R k (pre ++ post) kvs).1 = none → (rowsGo R k pre kvs).1 = none
  | [], k, kvs, _ => rfl
  | r :: pre, k, kvs, h => by
    rw [List.cons_append] at h
    unfold rowsGo at h ⊢
    by_cases hc : R r = true ∧ (getK kvs (.inr (stS (rowNm r)))).isSome = false
    · rw [if_pos hc] at h ⊢
      exact rowsGo_pre pre _ _ h
    · rw [if_neg hc] at h
      cases h
/-- a row put in that is not right: it is told by its place -/
theorem rowsGo_spoilt {R : D → Bool} {v : D} {g : List D} {s : Nat} {kvs : List (Key × D)} (h : (rowsGo R 0 g kvs).1 = none) (hs : s ≤ g.length) (hv : R v = false) : (rowsGo R 0 (g.take s ++ [v] ++ g.drop s) kvs).1 = some s := by
  rw [List.append_assoc]
  have hp : (rowsGo R 0 (g.take s) kvs).1 = none := rowsGo_pre (post := g.drop s) _ _ _ (by rw [List.take_append_drop]; exact h)
  have := rowsGo_app (v := v) (post := g.drop s) (g.take s) 0 kvs hp (fun e => by rw [hv] at e; cases e)
  rw [show [v] ++ g.drop s = v :: g.drop s from rfl, this, List.length_take]
  congr 1
  omega
end Fx

namespace Fx
open PySem PySem.Spec PyProof.Rows L2
/-! ### mirrors, step by step, the store changing -/
section
variable {S S1 S2 : List Cell} {sd : Sl}
theorem var' {i : Nat} {d : D} (h : sd[i]? = some (some d)) : mVar i sd S = .ok d S := by
  simp only [mVar_ev, h]
theorem set' {i : Nat} {m : ME} {d : D} (h : m sd S = .ok d S1) : mSet i m sd S = .nx (sd.set i (some d)) S1 := by
  simp only [mSet_ev, h, thenS_ok]
theorem bin' {o : O2} {a b : ME} {d e : D} {r : Res D} (ha : a sd S = .ok d S1) (hb : b sd S1 = .ok e S2) (ho : o d e S2 = r) : mBin o a b sd S = r := by
  simp only [mBin_ev, ha, hb, bind_ok, ho]
theorem cons' {m : ME} {r : MA} {d : D} {ds : List D} (h : m sd S = .ok d S1) (h2 : r sd S1 = .ok ds S2) : mCons m r sd S = .ok (d :: ds) S2 := by
  simp only [mCons_ev, h, h2, bind_ok]
theorem nil' : mNil sd S = .ok [] S := rfl
theorem lst' {m : MA} {ds : List D} (h : m sd S = .ok ds S1) (hz : ds.length ≤ 1000) : mLst m sd S = .ok (.loc S1.length) (S1 ++ [.lst ds]) := by
  have : ds.length ≤ sizeLine := line_le (by omega)
  simp only [mLst_ev, h, bind_ok, this, if_true]
theorem tup' {m : MA} {ds : List D} (h : m sd S = .ok ds S1) (hz : ds.length ≤ 1000) : mTup m sd S = .ok (.tup ds) S1 := by
  have : ds.length ≤ sizeLine := line_le (by omega)
  simp only [mTup_ev, h, bind_ok, this, if_true]
theorem call' {f : List D → List Cell → Res D} {ma : MA} {ds : List D} {r : Res D} (h : ma sd S = .ok ds S1) (hf : f ds S1 = r) : mCall f ma sd S = r := by
  simp only [mCall_ev, h, bind_ok, hf]
theorem mb' {f : OC} {ma : MA} {ds : List D} {r : Res D} (h : ma sd S = .ok ds S1) (hf : f ds S1 = r) : mB f ma sd S = r := by
  simp only [mB_ev, h, bind_ok, hf]
theorem tst' {m : ME} {b : Bool} (h : m sd S = .ok (.bl b) S1) : mTst m sd S = .ok b S1 := by
  simp only [mTst_ev, h, bind_ok, blD_bl, optR_some]
theorem tru' {m : ME} {b : Bool} (h : m sd S = .ok (.bl b) S1) : mTru m sd S = .ok b S1 := by
  simp only [mTru_ev, h, bind_ok, truD_bl, optR_some]
theorem not' {t : MT} {b : Bool} (h : t sd S = .ok b S1) : mNot t sd S = .ok (!b) S1 := by
  simp only [mNot_ev, h, bind_ok]
theorem or_f {a b : MT} {r : Res Bool} (h : a sd S = .ok false S1) (h2 : b sd S1 = r) : mOr a b sd S = r := by
  simp only [mOr_ev, h, bind_ok, Bool.false_eq_true, if_false, h2]
theorem if_f {t : MT} {a : MS} (h : t sd S = .ok false S1) : mIf t a mNext sd S = .nx sd S1 := by
  simp only [mIf_ev, h, thenS_ok, Bool.false_eq_true, if_false, mNext_ev]
theorem slice' {m : ME} {lo hi : MO} {d : D} {l h : Option Int} {r : Res D} (hm : m sd S = .ok d S) (hl : lo sd S = .ok l S) (hh : hi sd S = .ok h S) (ho : oSl d l h S = r) : mSlice m lo hi sd S = r := by
  simp only [mSlice_ev, hm, hl, hh, bind_ok, ho]
theorem part' {m : ME} {i : Int} (h : m sd S = .ok (.int i) S) : mPart m sd S = .ok (some i) S := by
  simp only [mPart_ev, h, bind_ok, intD_int]
theorem par' {i j : Nat} {a : MA} {d e : D} (h : a sd S = .ok [d, e] S1) : mPar i j a sd S = .nx ((sd.set i (some d)).set j (some e)) S1 := by
  simp only [mPar_ev, h]
theorem fresh' {l : ML} {ds : List D} (h : l sd S = .ok ds S1) : mFresh l sd S = .ok (.loc S1.length) (S1 ++ [.lst ds]) := by
  simp only [mFresh_ev, h, bind_ok]
/-- o[i] = v of a list -/
theorem asg' {o i m : ME} {n k : Nat} {xs : List D} {v : D} (hm : m sd S = .ok v S1) (ho : o sd S1 = .ok (.loc n) S1) (hi : i sd S1 = .ok (.int (k : Nat)) S1) (hn : S1[n]? = some (.lst xs)) (hk : k < xs.length) : mAsg (gSubA o i) m sd S = .nx sd (S1.set n (.lst (xs.set k v))) := by
  have hix : ixN xs.length (k : Int) = some k := by
    unfold ixN
    have e1 : ¬ ((k : Int) < 0) := by omega
    simp [e1]; omega
  simp only [mAsg_ev, hm, thenS_ok, gSubA_ev, ho, hi, bind_ok, setD_loc, hn, hix]
theorem ixl {n k : Nat} {xs : List D} {d : D} (hn : S[n]? = some (.lst xs)) (hk : xs[k]? = some d) : oIxA (.loc n) (.int (k : Nat)) S = .ok d S := by
  simp only [oIxA_loc, hn, atI_nat', hk, optR_some]
theorem ixt {k : Nat} {xs : List D} {d : D} (hk : xs[k]? = some d) : oIxA (.tup xs) (.int (k : Nat)) S = .ok d S := by
  simp only [oIxA_tup, atI_nat', hk, optR_some]
end
/-! what the body made: cells behind the state -/
section
variable {B : List Cell} {c : D} {st st' : Tp} {R X : List Cell}
theorem bT_new : bT B c st R ++ X = bT B c st (R ++ X) := bT_app
/-- the m-th cell is of the made ones, and holds x -/
def atR (B R : List Cell) (m : Nat) (x : Cell) : Prop := ∃ i, m = B.length + 1 + i ∧ R[i]? = some x
theorem atR.get {m : Nat} {x : Cell} (h : atR B R m x) : (bT B c st R)[m]? = some x := by
  obtain ⟨i, rfl, e⟩ := h
  rw [bT_R]
  exact e
theorem atR.app {m : Nat} {x : Cell} (h : atR B R m x) : atR B (R ++ X) m x := by
  obtain ⟨i, e1, e⟩ := h
  exact ⟨i, e1, by rw [List.getElem?_append_left (List.getElem?_eq_some_iff.mp e).1]; exact e⟩
theorem atR.new (i : Nat) {x : Cell} (h : X[i]? = some x) : atR B (R ++ X) (B.length + 1 + R.length + i) x :=
  ⟨R.length + i, by omega, by rw [List.getElem?_append_right (by omega)]; simpa using h⟩
theorem atR.set {m : Nat} {x y : Cell} (h : atR B R m x) : (bT B c st R).set m y = bT B c st (R.set (m - (B.length + 1)) y) := by
  obtain ⟨i, rfl, e⟩ := h
  unfold bT
  rw [List.set_append_right _ _ (by omega)]
  rw [show B.length + 1 + i - B.length = i + 1 by omega, show B.length + 1 + i - (B.length + 1) = i by omega]
  rfl
theorem atR.set_self {m : Nat} {x y : Cell} (h : atR B R m x) : atR B (R.set (m - (B.length + 1)) y) m y := by
  obtain ⟨i, rfl, e⟩ := h
  refine ⟨i, rfl, ?_⟩
  rw [show B.length + 1 + i - (B.length + 1) = i by omega]
  exact List.getElem?_set_self (List.getElem?_eq_some_iff.mp e).1
theorem atR.set_ne {m n : Nat} {x y z : Cell} (h : atR B R m x) (h2 : atR B R n z) (hne : m ≠ n) : atR B (R.set (m - (B.length + 1)) y) n z := by
  obtain ⟨i, rfl, e⟩ := h
  obtain ⟨j, rfl, e2⟩ := h2
  refine ⟨j, rfl, ?_⟩
  rw [show B.length + 1 + i - (B.length + 1) = i by omega, List.getElem?_set_ne (by omega)]
  exact e2
/-- a list made -/
theorem mk_lst {sd : Sl} {m : MA} {ds : List D} {st0 : Tp} {R0 : List Cell} (h : m sd (bT B c st0 R0) = .ok ds (bT B c st R)) (hz : ds.length ≤ 1000) : mLst m sd (bT B c st0 R0) = .ok (.loc (B.length + 1 + R.length)) (bT B c st (R ++ [.lst ds])) := by
  rw [lst' h hz, bT_len, bT_app]
end
/-! data without cells: alike to itself -/
mutual
def pln : D → Bool
  | .non => true
  | .bl _ => true
  | .int _ => true
  | .str x => okT x
  | .tup l => decide (l.length ≤ 1000) && plnL l
  | _ => false
def plnL : List D → Bool
  | [] => true
  | d :: l => pln d && plnL l
end
mutual
theorem same_refl {S : List Cell} : ∀ (n : Nat) (d : D), pln d = true → dep d < n → SameP S n d d
  | 0, _, _, h => by omega
  | n + 1, .non, _, _ => trivial
  | n + 1, .bl _, _, _ => rfl
  | n + 1, .int _, _, _ => rfl
  | n + 1, .str x, h, _ => by
    refine ⟨rfl, fun c hc => ?_⟩
    have h : okT x = true := h
    have := List.all_eq_true.mp h c hc
    simpa using this
  | n + 1, .tup l, h, hd => by
    rw [pln, Bool.and_eq_true, decide_eq_true_eq] at h
    have hd' : dep (.tup l) = depL l + 1 := by rw [dep]
    exact ⟨h.1, sameL_refl n l h.2 (by omega)⟩
  | n + 1, .loc _, h, _ => by cases h
  | n + 1, .cst _, h, _ => by cases h
  | n + 1, .adr _, h, _ => by cases h
  | n + 1, .lam _ _ _, h, _ => by cases h
theorem sameL_refl {S : List Cell} : ∀ (n : Nat) (l : List D), plnL l = true → depL l < n → sameL (SameP S n) l l
  | n, [], _, _ => trivial
  | n, d :: l, h, hd => by
    rw [plnL, Bool.and_eq_true] at h
    have hd' : depL (d :: l) = max (dep d) (depL l) := by rw [depL]
    exact ⟨same_refl n d h.1 (by omega), sameL_refl n l h.2 (by omega)⟩
end
theorem same_lst {S : List Cell} {n i j : Nat} {xs : List D} (h1 : S[i]? = some (.lst xs)) (h2 : S[j]? = some (.lst xs)) (hz : xs.length ≤ 1000) (hp : plnL xs = true) (hd : depL xs < n) : SameP S (n + 1) (.loc i) (.loc j) :=
  ⟨xs, xs, by unfold cellL; rw [h1], by unfold cellL; rw [h2], hz, sameL_refl n xs hp hd⟩
end Fx

namespace Fx
open PySem PySem.Spec PyProof.Rows L2
/-! ### a law's own summary, over a base B of cells; the end of a law with one table of code objects -/
noncomputable def mLawB (b : MS) (n : Nat) : List D → List Cell → Res D := by
  classical
  exact fun ds S => if ∃ J, b (startD n ds) S = .rt (.bl true) (S ++ J) then .ok (.bl true) S else .stk
theorem mLawB_ref {b : MS} {n : Nat} (ds : List D) (S : List Cell) : RefR S (mLawB b n ds S) (b (startD n ds) S) := by
  unfold mLawB
  split
  · rename_i h
    obtain ⟨J, e⟩ := h
    exact ref_pure (by simp) e
  · trivial
theorem mLawB_true {b : MS} {n : Nat} {ds : List D} {B : List Cell} (h : ∃ J, b (startD n ds) B = .rt (.bl true) (B ++ J)) : mLawB b n ds B = .ok (.bl true) B := by
  unfold mLawB
  rw [if_pos h]
theorem law_sp {mg : Str → Option Value} {K : PySem.W.Frag} {m : List D → List Cell → Res D} {P0 : Addr} {q : Str} (h : ∀ (ns : List Int) (B : List Cell) (c : D), scrOk B c ns → B[0]? = some (.tab P0 q) → m [c] B = .ok (.bl true) B)
    {H : Hp} {a : Addr} {ns : List Int} (hP : H P0 = some (.tbl #[])) (hS : SqL K H a (ns.map V.int)) : spM mg K 1 m [.ref a] H (fun v _ => v = .bl true) fun _ _ _ => False := by
  have fin : ∀ {μ : Mu} {B : List Cell} {c : D}, m [c] B = .ok (.bl true) B → FinA mg K (RepV K) (fun _ _ _ => False) μ H (m [c] B) fun v _ => v = .bl true := fun {μ B c} e => by
    rw [e]
    intro v H' μ' u s r
    rw [r.inv_bl]
  have one : StoRep mg K [P0] [.tab P0 q] H := ⟨by simp, rfl, fun n c a e1 e2 => by
    match n with
    | 0 =>
      cases e1; cases e2
      exact ⟨rfl, LamX.TabS.nil hP⟩
    | n + 1 => simp at e1⟩
  rcases hS with (hS | ⟨o, hS⟩) | hS
  · have ne : P0 ≠ a := fun z => by rw [z, hS] at hP; cases hP
    refine ⟨rfl, [P0, a], [.tab P0 q, .lst (ns.map D.int)], [.loc 1], ⟨by simp [ne], rfl, fun n c b e1 e2 => ?_⟩, .cons (.loc rfl) .nil, fin (h ns _ _ (.inr ⟨1, rfl, rfl⟩) rfl)⟩
    match n with
    | 0 =>
      cases e1; cases e2
      exact ⟨rfl, LamX.TabS.nil hP⟩
    | 1 =>
      cases e1; cases e2
      exact ⟨_, hS, repL_ints ns⟩
    | n + 2 => simp at e1
  · exact ⟨rfl, [P0], [.tab P0 q], [.cst (ns.map D.int)], one, .cons (.cst (.inl ⟨o, hS⟩) (repL_ints ns)) .nil, fin (h ns _ _ (.inl rfl) rfl)⟩
  · exact ⟨rfl, [P0], [.tab P0 q], [.cst (ns.map D.int)], one, .cons (.cst (.inr hS) (repL_ints ns)) .nil, fin (h ns _ _ (.inl rfl) rfl)⟩
end Fx

namespace Fx
open PySem PySem.Spec PyProof.Rows L2
/-! ### facts of the top: classes, tuples of texts, the table of code objects -/
theorem cls_mk {K : PySem.W.Frag} {h : Heap} {mg : Str → Option Value} {c : String} {q : Str} {st : Stmt} {ps : List Str} {fl : List String} {C fI : Addr} {oc : Value} {od an : Option Addr} {osl : Array (Option Value)} {kV doc pm cdv ct : Value} (X : K.In h) (G : h.Ns mainGlobals mg)
    (a : PySem.W.nsIn K mainGlobals (Str.ofString c) = some (some (.ref C))) (mk : PySem.W.makesIn K C = true) (ini : PySem.W.findIn K (.ref C) "__init__" = some (some (.ref fI))) (isf : PySem.W.isFn K (.ref fI) = true) (kC : PySem.W.keepIn K (.ref C) = true)
    (l : K.lookup fI = some ⟨oc, od, .func (PySem.W.fnOf "__init__" q (defArgs st) (defBody st) (defScope st) .none kV doc pm an cdv ct), osl⟩) (co : PySem.W.codeIn K cdv q = true) (kf : PySem.W.keepIn K (.ref fI) = true)
    (pg : PySem.W.plainGet K C Str.empty = true) (hd : PySem.W.hasDictIn K C = true) (po : PySem.W.plainOver K C = true) (sa : PySem.W.findIn K (.ref C) "__setattr__" = some (some (.builtin "object.__setattr__")))
    (no : ∀ f ∈ fl, PySem.W.findIn K (.ref C) (Str.ofString f) = some none)
    (hb : ∀ (kV doc pm : Value) (an : Option Addr) (cdv ct : Value) (us : List Value), us.length = ps.length → bindArgs (PySem.W.fnOf "__init__" q (defArgs st) (defBody st) (defScope st) .none kV doc pm an cdv ct) ⟨us, []⟩ = pure (ps.zip us)) :
    IsCls K mg c q st ps fl C fI (PySem.W.fnOf "__init__" q (defArgs st) (defBody st) (defScope st) .none kV doc pm an cdv ct) :=
  ⟨PySem.W.mg_of X G a, ⟨mk, ini, isf, kC⟩, fun_mk l co kf, (fun_mk l co kf).binds hb, ⟨pg, hd, po, sa⟩, no⟩
def strsB : List Value → List String → Bool
  | [], [] => true
  | .str x _ :: vs, y :: ys => decide (x = Str.ofString y) && strsB vs ys
  | _, _ => false
theorem strsB_vals : ∀ {vs : List Value} {ys : List String}, strsB vs ys = true → Vals ((ys.map cs).map fun y => V.str (stS y)) vs
  | [], [], _ => .nil
  | [], _ :: _, e => by simp [strsB] at e
  | v :: vs, [], e => by cases v <;> simp [strsB] at e
  | v :: vs, y :: ys, e => by
    cases v with
    | str x t =>
      simp only [strsB, Bool.and_eq_true] at e
      have e1 := of_decide_eq_true e.1
      exact .cons ⟨t, by rw [e1]; rfl⟩ (strsB_vals e.2)
    | _ => simp [strsB] at e
theorem ktup_mk {K : PySem.W.Frag} {h : Heap} {mg : Str → Option Value} {x : Str} {A : Addr} {od : Option Addr} {its : Array Value} {n : Nat} {osl : Array (Option Value)} {ps : List String} {xs : List (List Nat)} (X : K.In h) (G : h.Ns mainGlobals mg)
    (a : PySem.W.nsIn K mainGlobals x = some (some (.ref A))) (l : K.lookup A = some ⟨.type "tuple", od, .seq its n, osl⟩) (hz : its.size ≤ sizeLine) (tb : strsB its.toList ps = true) (ht : xs = ps.map cs) : KTup K mg x xs := by
  subst ht
  exact ⟨A, PySem.W.mg_of X G a, fun H => .inr ⟨_, its, n, l, rfl, rfl, hz, strsB_vals tb⟩⟩
/-- a law that leans on the table of one def -/
theorem lawAt_mk {l : PySem.W.OpenLaw} {w : World} {K : PySem.W.Frag} {k n : Nat} {mg : Str → Option Value} {fa : Addr} {h : Heap} {fd : FuncData} {c P0 : Addr} {q : Str} {m : List D → List Cell → Res D} (X : K.In h)
    (hT : h.get? P0 = some { cls := .none, data := .fields #[] }) (nT : K.lookup P0 = none) (hC : PySem.W.codeHdIn K c P0 = true) (hb : ∀ (s : Shared) (u : Value), BindsTo s fd ⟨[u], []⟩ [("script", u)])
    (tr : ∀ (ns : List Int) (B : List Cell) (c : D), scrOk B c ns → B[0]? = some (.tab P0 q) → m [c] B = .ok (.bl true) B)
    (F : ∀ base : Heap, K.In base → base.Ns mainGlobals mg → LamX.TabB base mg c P0 → FnOk l.prog w K mg base (L2.CX l.prog w) k fa fd ["script"] (spM mg K 1 m)) : LamX.LawAtS l w K (L2.CX l.prog w) k n "script" mg fa h :=
  ⟨fd, [(c, P0)], spM mg K 1 m, fun p hp => by rw [List.mem_singleton] at hp; subst hp; exact hT, fun p hp => by rw [List.mem_singleton] at hp; subst hp; exact nT, fun p hp => by rw [List.mem_singleton] at hp; subst hp; exact PySem.W.codeHd_of_K X hC, hb,
    fun H a ns _ _ hH hS => law_sp tr (hH _ (List.mem_singleton.mpr rfl)) hS, fun base k g t => F base k g (t _ (List.mem_singleton.mpr rfl))⟩
theorem no4 {p : String → Prop} {a b c d : String} (ha : p a) (hb : p b) (hc : p c) (hd : p d) : ∀ f ∈ [a, b, c, d], p f := fun f hf => by
  simp only [List.mem_cons, List.not_mem_nil, or_false] at hf
  rcases hf with rfl | rfl | rfl | rfl <;> assumption
theorem no5 {p : String → Prop} {a b c d e : String} (ha : p a) (hb : p b) (hc : p c) (hd : p d) (he : p e) : ∀ f ∈ [a, b, c, d, e], p f := fun f hf => by
  simp only [List.mem_cons, List.not_mem_nil, or_false] at hf
  rcases hf with rfl | rfl | rfl | rfl | rfl <;> assumption
end Fx

namespace K00
open PySem PySem.Spec PyProof.Rows L2 Fx
abbrev ns_ChiptrueError : List (List Nat) := [cs "ChiptrueError"]
abbrev ns_TooLarge : List (List Nat) := [cs "TooLarge", cs "ChiptrueError"]
abbrev ns_InvalidText : List (List Nat) := [cs "InvalidText", cs "ChiptrueError"]
abbrev ns_InvalidLibrary : List (List Nat) := [cs "InvalidLibrary", cs "ChiptrueError"]
abbrev ns_InvalidMade : List (List Nat) := [cs "InvalidMade", cs "ChiptrueError"]
abbrev ns_InvalidGrid : List (List Nat) := [cs "InvalidGrid", cs "ChiptrueError"]
abbrev ns_InvalidLog : List (List Nat) := [cs "InvalidLog", cs "ChiptrueError"]
abbrev clX : List String := ["ChiptrueError", "TooLarge", "InvalidText", "InvalidTerm", "InvalidChip", "InvalidNet", "InvalidLibrary", "InvalidMade", "InvalidGrid", "InvalidLog"]
def tabX : Tab := fun y n => if y ∈ clX ∧ n ∈ clX then some (decide (y = n ∨ n = "ChiptrueError")) else none
def q_Net : Str := ("Net.__init__" : Str) ++ ".<locals>." ++ "<lambda>"
/-- the k-th class: its name, what its instances hold under "name" -/
def exN : List (String × List (List Nat)) := [("InvalidChip", ns_InvalidChip), ("InvalidGrid", ns_InvalidGrid), ("InvalidLibrary", ns_InvalidLibrary), ("InvalidLog", ns_InvalidLog), ("InvalidMade", ns_InvalidMade), ("InvalidNet", ns_InvalidNet), ("InvalidTerm", ns_InvalidTerm), ("InvalidText", ns_InvalidText), ("TooLarge", ns_TooLarge), ("ChiptrueError", ns_ChiptrueError)]
def nmK : List (List Nat) := [cs "InvalidChip", cs "InvalidGrid", cs "InvalidLibrary", cs "InvalidLog", cs "InvalidMade", cs "InvalidNet", cs "InvalidTerm", cs "InvalidText", cs "TooLarge", cs "ChiptrueError"]
def m__law_raise : List D → List Cell → Res D := fun ds S => match ds with
  | [.int k, place] => if 0 ≤ k ∧ okv S place = true then (match exN[k.toNat]? with
    | some (c, ns) => .exc ⟨c, exFs ns place⟩ S
    | none => .stk) else .stk
  | _ => .stk
def m__law_forwards : List D → List Cell → Res D := fun ds S => match ds with
  | [.int k, place] => if 0 ≤ k ∧ okv S place = true then (match nmK[k.toNat]? with
    | some x => .ok (.str x) S
    | none => .stk) else .stk
  | _ => .stk
def m__law_backwards : List D → List Cell → Res D := m__law_forwards
def m__law_caught : List D → List Cell → Res D := fun ds S => match ds with
  | [.int k, place] => if 0 ≤ k ∧ okv S place = true then (match nmK[k.toNat]? with
    | some x => .ok (.tup [place, .str x]) S
    | none => .stk) else .stk
  | _ => .stk
def toldX (nm : List Nat) : Option D → D
  | none => .non
  | some p => .tup [.str nm, p]
def callE (kind : List Nat) (v : D) : D :=
  if kind = cs "term" then toldX (cs "InvalidTerm") (if isT 40 v = true then none else some .non)
  else if kind = cs "chip" then (match v with
    | .tup [nm, i, r, w, o] => toldX (cs "InvalidChip") (chipE nm i r w o)
    | _ => .non)
  else (match v with
    | .tup [i, l, a, o] => toldX (cs "InvalidNet") (netE i l a o)
    | _ => .non)
def okC (P0 : Addr) (S : List Cell) (kind : List Nat) (v : D) : Bool :=
  if kind = cs "term" then okd 40 S v
  else if kind = cs "chip" then (match v with
    | .tup [nm, i, r, w, o] => okv S nm && okd 41 S i && okd 41 S r && okd 41 S w && okd 41 S o
    | _ => false)
  else decide (kind = cs "net") && (match v with
    | .tup [i, l, a, o] => okv S i && okv S l && okv S a && okv S o
    | _ => false) && (match S[0]? with | some (Cell.tab P q) => decide (P = P0 ∧ q = q_Net) | _ => false)
def m__law_call (P0 : Addr) : List D → List Cell → Res D := fun ds S => match ds with
  | [.str kind, v] => if okC P0 S kind v = true then .ok (callE kind v) S else .stk
  | _ => .stk
end K00

namespace K00
open PySem PySem.Spec PyProof.Rows L2 Fx
abbrev St := L2.St
def topS (i : Nat) : Stmt := PySem.Challenge.pw_chiptrue_k00_errors.main.body.getD i (.Pass ⟨0, 0, 0, 0⟩)
structure GK (K : PySem.W.Frag) (mg : Str → Option Value) : Prop where
  b_ValueError : mg "ValueError" = none
  b_abs : mg "abs" = none
  b_all : mg "all" = none
  b_bool : mg "bool" = none
  b_int : mg "int" = none
  b_isinstance : mg "isinstance" = none
  b_len : mg "len" = none
  b_list : mg "list" = none
  b_range : mg "range" = none
  b_str : mg "str" = none
  b_tuple : mg "tuple" = none
  f_is_count : IsFn K mg "is_count" (topS 14) ["value"]
  f_is_width : IsFn K mg "is_width" (topS 15) ["value"]
  f_is_word : IsFn K mg "is_word" (topS 16) ["value", "width"]
  f_is_name : IsFn K mg "is_name" (topS 21) ["value"]
  f_is_term : IsFn K mg "is_term" (topS 22) ["value"]
  f_check_term : IsFn K mg "check_term" (topS 23) ["value"]
  f_is_input : IsFn K mg "is_input" (topS 25) ["value"]
  f_is_register : IsFn K mg "is_register" (topS 26) ["value"]
  f_is_named_term : IsFn K mg "is_named_term" (topS 27) ["value"]
  f_check_rows : IsFn K mg "check_rows" (topS 29) ["kind", "rows", "is_right", "names"]
  f_is_literal : IsFn K mg "is_literal" (topS 33) ["value", "limit"]
  f_is_latch : IsFn K mg "is_latch" (topS 34) ["row", "limit"]
  f_is_and : IsFn K mg "is_and" (topS 35) ["row", "limit"]
  f_is_output : IsFn K mg "is_output" (topS 36) ["row", "limit"]
  f_check_net_rows : IsFn K mg "check_net_rows" (topS 32) ["kind", "rows", "is_right"]
  f__law_start : IsFn K mg "_law_start" (topS 38) ["script"]
  f__law_pick : IsFn K mg "_law_pick" (topS 39) ["state", "limit"]
  f__law_same : IsFn K mg "_law_same" (topS 40) ["told", "due"]
  f__law_raise : IsFn K mg "_law_raise" (topS 41) ["k", "place"]
  f__law_forwards : IsFn K mg "_law_forwards" (topS 42) ["k", "place"]
  f__law_backwards : IsFn K mg "_law_backwards" (topS 43) ["k", "place"]
  f__law_caught : IsFn K mg "_law_caught" (topS 44) ["k", "place"]
  f__law_call : IsFn K mg "_law_call" (topS 45) ["kind", "value"]
  f_law : IsFn K mg "law" (topS 46) ["script"]
  c_WIDEST : ∃ t, mg "WIDEST" = some (.int 16 t)
abbrev i_ChiptrueError : Stmt := clsInit (topS 2)
abbrev i_TooLarge : Stmt := clsInit (topS 3)
abbrev i_InvalidText : Stmt := clsInit (topS 4)
abbrev i_InvalidTerm : Stmt := clsInit (topS 5)
abbrev i_InvalidChip : Stmt := clsInit (topS 6)
abbrev i_InvalidNet : Stmt := clsInit (topS 7)
abbrev i_InvalidLibrary : Stmt := clsInit (topS 8)
abbrev i_InvalidMade : Stmt := clsInit (topS 9)
abbrev i_InvalidGrid : Stmt := clsInit (topS 10)
abbrev i_InvalidLog : Stmt := clsInit (topS 11)
section
variable {P : Program} {w : World} {K : PySem.W.Frag} {mg : Str → Option Value} {base : Heap} {C fI : Addr} {fd : FuncData}
theorem init0 (T : ExcAt P K mg "ChiptrueError" "ChiptrueError.__init__" i_ChiptrueError C fI fd) : FnOk P w K mg base (L2.CX P w) 1 fI fd ["self", "place"] (spIB K C "ChiptrueError") := by
  obtain ⟨cc, cdv, F⟩ := T.i
  exact ini_okB (n0 := "ChiptrueError") F rfl (fun L => rfl) (fun L => rfl) (fun A outer s H E => pss_cons (ps_ost (pe_var (i := 0) rfl (.inl F.scp.2.2.2.2.2.1)) (pe_var (i := 1) rfl (.inl F.scp.2.2.2.2.2.2))) (pss_cons (ps_ost (pe_var (i := 0) rfl (.inl F.scp.2.2.2.2.2.1)) pe_str) pss_nil))
theorem bind0 (T : ExcAt P K mg "ChiptrueError" "ChiptrueError.__init__" i_ChiptrueError C fI fd) : Binds K fd ["self", "place"] [] := by
  obtain ⟨cc, cdv, F⟩ := T.i
  obtain ⟨oc, od, kV, doc, pm, an, ct, osl, rfl, _, _⟩ := F.ex
  exact .all fun us hl => match us, hl with | [_, _], _ => rfl
theorem init1 {C0 f0 : Addr} {fd0 : FuncData} (T0 : ExcAt P K mg "ChiptrueError" "ChiptrueError.__init__" i_ChiptrueError C0 f0 fd0) (T : ExcAt P K mg "TooLarge" "TooLarge.__init__" i_TooLarge C fI fd) : FnOk P w K mg base (L2.CX P w) 2 fI fd ["self", "place"] (spID K C C0 f0 "ChiptrueError" "TooLarge") := by
  obtain ⟨cc, cdv, F⟩ := T.i
  exact ini_okD (n1 := "TooLarge") F rfl (fun L => rfl) (fun L => rfl) (init0 T0) (bind0 T0) (fun A outer s H E => pss_cons (ps_ost (pe_var (i := 0) rfl (.inl F.scp.2.2.2.2.2.1)) pe_str) pss_nil)
theorem bind1 (T : ExcAt P K mg "TooLarge" "TooLarge.__init__" i_TooLarge C fI fd) : Binds K fd ["self", "place"] [] := by
  obtain ⟨cc, cdv, F⟩ := T.i
  obtain ⟨oc, od, kV, doc, pm, an, ct, osl, rfl, _, _⟩ := F.ex
  exact .all fun us hl => match us, hl with | [_, _], _ => rfl
theorem init2 {C0 f0 : Addr} {fd0 : FuncData} (T0 : ExcAt P K mg "ChiptrueError" "ChiptrueError.__init__" i_ChiptrueError C0 f0 fd0) (T : ExcAt P K mg "InvalidText" "InvalidText.__init__" i_InvalidText C fI fd) : FnOk P w K mg base (L2.CX P w) 2 fI fd ["self", "place"] (spID K C C0 f0 "ChiptrueError" "InvalidText") := by
  obtain ⟨cc, cdv, F⟩ := T.i
  exact ini_okD (n1 := "InvalidText") F rfl (fun L => rfl) (fun L => rfl) (init0 T0) (bind0 T0) (fun A outer s H E => pss_cons (ps_ost (pe_var (i := 0) rfl (.inl F.scp.2.2.2.2.2.1)) pe_str) pss_nil)
theorem bind2 (T : ExcAt P K mg "InvalidText" "InvalidText.__init__" i_InvalidText C fI fd) : Binds K fd ["self", "place"] [] := by
  obtain ⟨cc, cdv, F⟩ := T.i
  obtain ⟨oc, od, kV, doc, pm, an, ct, osl, rfl, _, _⟩ := F.ex
  exact .all fun us hl => match us, hl with | [_, _], _ => rfl
theorem init3 {C0 f0 : Addr} {fd0 : FuncData} (T0 : ExcAt P K mg "ChiptrueError" "ChiptrueError.__init__" i_ChiptrueError C0 f0 fd0) (T : ExcAt P K mg "InvalidTerm" "InvalidTerm.__init__" i_InvalidTerm C fI fd) : FnOk P w K mg base (L2.CX P w) 2 fI fd ["self", "place"] (spID K C C0 f0 "ChiptrueError" "InvalidTerm") := by
  obtain ⟨cc, cdv, F⟩ := T.i
  exact ini_okD (n1 := "InvalidTerm") F rfl (fun L => rfl) (fun L => rfl) (init0 T0) (bind0 T0) (fun A outer s H E => pss_cons (ps_ost (pe_var (i := 0) rfl (.inl F.scp.2.2.2.2.2.1)) pe_str) pss_nil)
theorem bind3 (T : ExcAt P K mg "InvalidTerm" "InvalidTerm.__init__" i_InvalidTerm C fI fd) : Binds K fd ["self", "place"] [] := by
  obtain ⟨cc, cdv, F⟩ := T.i
  obtain ⟨oc, od, kV, doc, pm, an, ct, osl, rfl, _, _⟩ := F.ex
  exact .all fun us hl => match us, hl with | [_, _], _ => rfl
theorem init4 {C0 f0 : Addr} {fd0 : FuncData} (T0 : ExcAt P K mg "ChiptrueError" "ChiptrueError.__init__" i_ChiptrueError C0 f0 fd0) (T : ExcAt P K mg "InvalidChip" "InvalidChip.__init__" i_InvalidChip C fI fd) : FnOk P w K mg base (L2.CX P w) 2 fI fd ["self", "place"] (spID K C C0 f0 "ChiptrueError" "InvalidChip") := by
  obtain ⟨cc, cdv, F⟩ := T.i
  exact ini_okD (n1 := "InvalidChip") F rfl (fun L => rfl) (fun L => rfl) (init0 T0) (bind0 T0) (fun A outer s H E => pss_cons (ps_ost (pe_var (i := 0) rfl (.inl F.scp.2.2.2.2.2.1)) pe_str) pss_nil)
theorem bind4 (T : ExcAt P K mg "InvalidChip" "InvalidChip.__init__" i_InvalidChip C fI fd) : Binds K fd ["self", "place"] [] := by
  obtain ⟨cc, cdv, F⟩ := T.i
  obtain ⟨oc, od, kV, doc, pm, an, ct, osl, rfl, _, _⟩ := F.ex
  exact .all fun us hl => match us, hl with | [_, _], _ => rfl
theorem init5 {C0 f0 : Addr} {fd0 : FuncData} (T0 : ExcAt P K mg "ChiptrueError" "ChiptrueError.__init__" i_ChiptrueError C0 f0 fd0) (T : ExcAt P K mg "InvalidNet" "InvalidNet.__init__" i_InvalidNet C fI fd) : FnOk P w K mg base (L2.CX P w) 2 fI fd ["self", "place"] (spID K C C0 f0 "ChiptrueError" "InvalidNet") := by
  obtain ⟨cc, cdv, F⟩ := T.i
  exact ini_okD (n1 := "InvalidNet") F rfl (fun L => rfl) (fun L => rfl) (init0 T0) (bind0 T0) (fun A outer s H E => pss_cons (ps_ost (pe_var (i := 0) rfl (.inl F.scp.2.2.2.2.2.1)) pe_str) pss_nil)
theorem bind5 (T : ExcAt P K mg "InvalidNet" "InvalidNet.__init__" i_InvalidNet C fI fd) : Binds K fd ["self", "place"] [] := by
  obtain ⟨cc, cdv, F⟩ := T.i
  obtain ⟨oc, od, kV, doc, pm, an, ct, osl, rfl, _, _⟩ := F.ex
  exact .all fun us hl => match us, hl with | [_, _], _ => rfl
theorem init6 {C0 f0 : Addr} {fd0 : FuncData} (T0 : ExcAt P K mg "ChiptrueError" "ChiptrueError.__init__" i_ChiptrueError C0 f0 fd0) (T : ExcAt P K mg "InvalidLibrary" "InvalidLibrary.__init__" i_InvalidLibrary C fI fd) : FnOk P w K mg base (L2.CX P w) 2 fI fd ["self", "place"] (spID K C C0 f0 "ChiptrueError" "InvalidLibrary") := by
  obtain ⟨cc, cdv, F⟩ := T.i
  exact ini_okD (n1 := "InvalidLibrary") F rfl (fun L => rfl) (fun L => rfl) (init0 T0) (bind0 T0) (fun A outer s H E => pss_cons (ps_ost (pe_var (i := 0) rfl (.inl F.scp.2.2.2.2.2.1)) pe_str) pss_nil)
theorem bind6 (T : ExcAt P K mg "InvalidLibrary" "InvalidLibrary.__init__" i_InvalidLibrary C fI fd) : Binds K fd ["self", "place"] [] := by
  obtain ⟨cc, cdv, F⟩ := T.i
  obtain ⟨oc, od, kV, doc, pm, an, ct, osl, rfl, _, _⟩ := F.ex
  exact .all fun us hl => match us, hl with | [_, _], _ => rfl
theorem init7 {C0 f0 : Addr} {fd0 : FuncData} (T0 : ExcAt P K mg "ChiptrueError" "ChiptrueError.__init__" i_ChiptrueError C0 f0 fd0) (T : ExcAt P K mg "InvalidMade" "InvalidMade.__init__" i_InvalidMade C fI fd) : FnOk P w K mg base (L2.CX P w) 2 fI fd ["self", "place"] (spID K C C0 f0 "ChiptrueError" "InvalidMade") := by
  obtain ⟨cc, cdv, F⟩ := T.i
  exact ini_okD (n1 := "InvalidMade") F rfl (fun L => rfl) (fun L => rfl) (init0 T0) (bind0 T0) (fun A outer s H E => pss_cons (ps_ost (pe_var (i := 0) rfl (.inl F.scp.2.2.2.2.2.1)) pe_str) pss_nil)
theorem bind7 (T : ExcAt P K mg "InvalidMade" "InvalidMade.__init__" i_InvalidMade C fI fd) : Binds K fd ["self", "place"] [] := by
  obtain ⟨cc, cdv, F⟩ := T.i
  obtain ⟨oc, od, kV, doc, pm, an, ct, osl, rfl, _, _⟩ := F.ex
  exact .all fun us hl => match us, hl with | [_, _], _ => rfl
theorem init8 {C0 f0 : Addr} {fd0 : FuncData} (T0 : ExcAt P K mg "ChiptrueError" "ChiptrueError.__init__" i_ChiptrueError C0 f0 fd0) (T : ExcAt P K mg "InvalidGrid" "InvalidGrid.__init__" i_InvalidGrid C fI fd) : FnOk P w K mg base (L2.CX P w) 2 fI fd ["self", "place"] (spID K C C0 f0 "ChiptrueError" "InvalidGrid") := by
  obtain ⟨cc, cdv, F⟩ := T.i
  exact ini_okD (n1 := "InvalidGrid") F rfl (fun L => rfl) (fun L => rfl) (init0 T0) (bind0 T0) (fun A outer s H E => pss_cons (ps_ost (pe_var (i := 0) rfl (.inl F.scp.2.2.2.2.2.1)) pe_str) pss_nil)
theorem bind8 (T : ExcAt P K mg "InvalidGrid" "InvalidGrid.__init__" i_InvalidGrid C fI fd) : Binds K fd ["self", "place"] [] := by
  obtain ⟨cc, cdv, F⟩ := T.i
  obtain ⟨oc, od, kV, doc, pm, an, ct, osl, rfl, _, _⟩ := F.ex
  exact .all fun us hl => match us, hl with | [_, _], _ => rfl
theorem init9 {C0 f0 : Addr} {fd0 : FuncData} (T0 : ExcAt P K mg "ChiptrueError" "ChiptrueError.__init__" i_ChiptrueError C0 f0 fd0) (T : ExcAt P K mg "InvalidLog" "InvalidLog.__init__" i_InvalidLog C fI fd) : FnOk P w K mg base (L2.CX P w) 2 fI fd ["self", "place"] (spID K C C0 f0 "ChiptrueError" "InvalidLog") := by
  obtain ⟨cc, cdv, F⟩ := T.i
  exact ini_okD (n1 := "InvalidLog") F rfl (fun L => rfl) (fun L => rfl) (init0 T0) (bind0 T0) (fun A outer s H E => pss_cons (ps_ost (pe_var (i := 0) rfl (.inl F.scp.2.2.2.2.2.1)) pe_str) pss_nil)
theorem bind9 (T : ExcAt P K mg "InvalidLog" "InvalidLog.__init__" i_InvalidLog C fI fd) : Binds K fd ["self", "place"] [] := by
  obtain ⟨cc, cdv, F⟩ := T.i
  obtain ⟨oc, od, kV, doc, pm, an, ct, osl, rfl, _, _⟩ := F.ex
  exact .all fun us hl => match us, hl with | [_, _], _ => rfl
structure XK (P : Program) (w : World) (K : PySem.W.Frag) (mg : Str → Option Value) where
  C0 : Addr
  f0 : Addr
  d0 : FuncData
  e0 : ExcAt P K mg "ChiptrueError" "ChiptrueError.__init__" i_ChiptrueError C0 f0 d0
  ma0 : PySem.W.mroIn K C0 (.ref C0) = some true
  su0 : PySem.W.ks_superIn K C0 C0 "__init__" = some (some (.builtin "ValueError.__init__"))
  C1 : Addr
  f1 : Addr
  d1 : FuncData
  e1 : ExcAt P K mg "TooLarge" "TooLarge.__init__" i_TooLarge C1 f1 d1
  ma1 : PySem.W.mroIn K C1 (.ref C1) = some true
  su1 : PySem.W.ks_superIn K C1 C1 "__init__" = some (some (.ref f0))
  mb1 : PySem.W.mroIn K C1 (.ref C0) = some true
  sb1 : PySem.W.ks_superIn K C1 C0 "__init__" = some (some (.builtin "ValueError.__init__"))
  C2 : Addr
  f2 : Addr
  d2 : FuncData
  e2 : ExcAt P K mg "InvalidText" "InvalidText.__init__" i_InvalidText C2 f2 d2
  ma2 : PySem.W.mroIn K C2 (.ref C2) = some true
  su2 : PySem.W.ks_superIn K C2 C2 "__init__" = some (some (.ref f0))
  mb2 : PySem.W.mroIn K C2 (.ref C0) = some true
  sb2 : PySem.W.ks_superIn K C2 C0 "__init__" = some (some (.builtin "ValueError.__init__"))
  C3 : Addr
  f3 : Addr
  d3 : FuncData
  e3 : ExcAt P K mg "InvalidTerm" "InvalidTerm.__init__" i_InvalidTerm C3 f3 d3
  ma3 : PySem.W.mroIn K C3 (.ref C3) = some true
  su3 : PySem.W.ks_superIn K C3 C3 "__init__" = some (some (.ref f0))
  mb3 : PySem.W.mroIn K C3 (.ref C0) = some true
  sb3 : PySem.W.ks_superIn K C3 C0 "__init__" = some (some (.builtin "ValueError.__init__"))
  C4 : Addr
  f4 : Addr
  d4 : FuncData
  e4 : ExcAt P K mg "InvalidChip" "InvalidChip.__init__" i_InvalidChip C4 f4 d4
  ma4 : PySem.W.mroIn K C4 (.ref C4) = some true
  su4 : PySem.W.ks_superIn K C4 C4 "__init__" = some (some (.ref f0))
  mb4 : PySem.W.mroIn K C4 (.ref C0) = some true
  sb4 : PySem.W.ks_superIn K C4 C0 "__init__" = some (some (.builtin "ValueError.__init__"))
  C5 : Addr
  f5 : Addr
  d5 : FuncData
  e5 : ExcAt P K mg "InvalidNet" "InvalidNet.__init__" i_InvalidNet C5 f5 d5
  ma5 : PySem.W.mroIn K C5 (.ref C5) = some true
  su5 : PySem.W.ks_superIn K C5 C5 "__init__" = some (some (.ref f0))
  mb5 : PySem.W.mroIn K C5 (.ref C0) = some true
  sb5 : PySem.W.ks_superIn K C5 C0 "__init__" = some (some (.builtin "ValueError.__init__"))
  C6 : Addr
  f6 : Addr
  d6 : FuncData
  e6 : ExcAt P K mg "InvalidLibrary" "InvalidLibrary.__init__" i_InvalidLibrary C6 f6 d6
  ma6 : PySem.W.mroIn K C6 (.ref C6) = some true
  su6 : PySem.W.ks_superIn K C6 C6 "__init__" = some (some (.ref f0))
  mb6 : PySem.W.mroIn K C6 (.ref C0) = some true
  sb6 : PySem.W.ks_superIn K C6 C0 "__init__" = some (some (.builtin "ValueError.__init__"))
  C7 : Addr
  f7 : Addr
  d7 : FuncData
  e7 : ExcAt P K mg "InvalidMade" "InvalidMade.__init__" i_InvalidMade C7 f7 d7
  ma7 : PySem.W.mroIn K C7 (.ref C7) = some true
  su7 : PySem.W.ks_superIn K C7 C7 "__init__" = some (some (.ref f0))
  mb7 : PySem.W.mroIn K C7 (.ref C0) = some true
  sb7 : PySem.W.ks_superIn K C7 C0 "__init__" = some (some (.builtin "ValueError.__init__"))
  C8 : Addr
  f8 : Addr
  d8 : FuncData
  e8 : ExcAt P K mg "InvalidGrid" "InvalidGrid.__init__" i_InvalidGrid C8 f8 d8
  ma8 : PySem.W.mroIn K C8 (.ref C8) = some true
  su8 : PySem.W.ks_superIn K C8 C8 "__init__" = some (some (.ref f0))
  mb8 : PySem.W.mroIn K C8 (.ref C0) = some true
  sb8 : PySem.W.ks_superIn K C8 C0 "__init__" = some (some (.builtin "ValueError.__init__"))
  C9 : Addr
  f9 : Addr
  d9 : FuncData
  e9 : ExcAt P K mg "InvalidLog" "InvalidLog.__init__" i_InvalidLog C9 f9 d9
  ma9 : PySem.W.mroIn K C9 (.ref C9) = some true
  su9 : PySem.W.ks_superIn K C9 C9 "__init__" = some (some (.ref f0))
  mb9 : PySem.W.mroIn K C9 (.ref C0) = some true
  sb9 : PySem.W.ks_superIn K C9 C0 "__init__" = some (some (.builtin "ValueError.__init__"))
  q0_0 : PySem.W.exmOne K (.ref C0) (.ref C0) = some true
  q0_1 : PySem.W.exmOne K (.ref C0) (.ref C1) = some false
  q0_2 : PySem.W.exmOne K (.ref C0) (.ref C2) = some false
  q0_3 : PySem.W.exmOne K (.ref C0) (.ref C3) = some false
  q0_4 : PySem.W.exmOne K (.ref C0) (.ref C4) = some false
  q0_5 : PySem.W.exmOne K (.ref C0) (.ref C5) = some false
  q0_6 : PySem.W.exmOne K (.ref C0) (.ref C6) = some false
  q0_7 : PySem.W.exmOne K (.ref C0) (.ref C7) = some false
  q0_8 : PySem.W.exmOne K (.ref C0) (.ref C8) = some false
  q0_9 : PySem.W.exmOne K (.ref C0) (.ref C9) = some false
  q1_0 : PySem.W.exmOne K (.ref C1) (.ref C0) = some true
  q1_1 : PySem.W.exmOne K (.ref C1) (.ref C1) = some true
  q1_2 : PySem.W.exmOne K (.ref C1) (.ref C2) = some false
  q1_3 : PySem.W.exmOne K (.ref C1) (.ref C3) = some false
  q1_4 : PySem.W.exmOne K (.ref C1) (.ref C4) = some false
  q1_5 : PySem.W.exmOne K (.ref C1) (.ref C5) = some false
  q1_6 : PySem.W.exmOne K (.ref C1) (.ref C6) = some false
  q1_7 : PySem.W.exmOne K (.ref C1) (.ref C7) = some false
  q1_8 : PySem.W.exmOne K (.ref C1) (.ref C8) = some false
  q1_9 : PySem.W.exmOne K (.ref C1) (.ref C9) = some false
  q2_0 : PySem.W.exmOne K (.ref C2) (.ref C0) = some true
  q2_1 : PySem.W.exmOne K (.ref C2) (.ref C1) = some false
  q2_2 : PySem.W.exmOne K (.ref C2) (.ref C2) = some true
  q2_3 : PySem.W.exmOne K (.ref C2) (.ref C3) = some false
  q2_4 : PySem.W.exmOne K (.ref C2) (.ref C4) = some false
  q2_5 : PySem.W.exmOne K (.ref C2) (.ref C5) = some false
  q2_6 : PySem.W.exmOne K (.ref C2) (.ref C6) = some false
  q2_7 : PySem.W.exmOne K (.ref C2) (.ref C7) = some false
  q2_8 : PySem.W.exmOne K (.ref C2) (.ref C8) = some false
  q2_9 : PySem.W.exmOne K (.ref C2) (.ref C9) = some false
  q3_0 : PySem.W.exmOne K (.ref C3) (.ref C0) = some true
  q3_1 : PySem.W.exmOne K (.ref C3) (.ref C1) = some false
  q3_2 : PySem.W.exmOne K (.ref C3) (.ref C2) = some false
  q3_3 : PySem.W.exmOne K (.ref C3) (.ref C3) = some true
  q3_4 : PySem.W.exmOne K (.ref C3) (.ref C4) = some false
  q3_5 : PySem.W.exmOne K (.ref C3) (.ref C5) = some false
  q3_6 : PySem.W.exmOne K (.ref C3) (.ref C6) = some false
  q3_7 : PySem.W.exmOne K (.ref C3) (.ref C7) = some false
  q3_8 : PySem.W.exmOne K (.ref C3) (.ref C8) = some false
  q3_9 : PySem.W.exmOne K (.ref C3) (.ref C9) = some false
  q4_0 : PySem.W.exmOne K (.ref C4) (.ref C0) = some true
  q4_1 : PySem.W.exmOne K (.ref C4) (.ref C1) = some false
  q4_2 : PySem.W.exmOne K (.ref C4) (.ref C2) = some false
  q4_3 : PySem.W.exmOne K (.ref C4) (.ref C3) = some false
  q4_4 : PySem.W.exmOne K (.ref C4) (.ref C4) = some true
  q4_5 : PySem.W.exmOne K (.ref C4) (.ref C5) = some false
  q4_6 : PySem.W.exmOne K (.ref C4) (.ref C6) = some false
  q4_7 : PySem.W.exmOne K (.ref C4) (.ref C7) = some false
  q4_8 : PySem.W.exmOne K (.ref C4) (.ref C8) = some false
  q4_9 : PySem.W.exmOne K (.ref C4) (.ref C9) = some false
  q5_0 : PySem.W.exmOne K (.ref C5) (.ref C0) = some true
  q5_1 : PySem.W.exmOne K (.ref C5) (.ref C1) = some false
  q5_2 : PySem.W.exmOne K (.ref C5) (.ref C2) = some false
  q5_3 : PySem.W.exmOne K (.ref C5) (.ref C3) = some false
  q5_4 : PySem.W.exmOne K (.ref C5) (.ref C4) = some false
  q5_5 : PySem.W.exmOne K (.ref C5) (.ref C5) = some true
  q5_6 : PySem.W.exmOne K (.ref C5) (.ref C6) = some false
  q5_7 : PySem.W.exmOne K (.ref C5) (.ref C7) = some false
  q5_8 : PySem.W.exmOne K (.ref C5) (.ref C8) = some false
  q5_9 : PySem.W.exmOne K (.ref C5) (.ref C9) = some false
  q6_0 : PySem.W.exmOne K (.ref C6) (.ref C0) = some true
  q6_1 : PySem.W.exmOne K (.ref C6) (.ref C1) = some false
  q6_2 : PySem.W.exmOne K (.ref C6) (.ref C2) = some false
  q6_3 : PySem.W.exmOne K (.ref C6) (.ref C3) = some false
  q6_4 : PySem.W.exmOne K (.ref C6) (.ref C4) = some false
  q6_5 : PySem.W.exmOne K (.ref C6) (.ref C5) = some false
  q6_6 : PySem.W.exmOne K (.ref C6) (.ref C6) = some true
  q6_7 : PySem.W.exmOne K (.ref C6) (.ref C7) = some false
  q6_8 : PySem.W.exmOne K (.ref C6) (.ref C8) = some false
  q6_9 : PySem.W.exmOne K (.ref C6) (.ref C9) = some false
  q7_0 : PySem.W.exmOne K (.ref C7) (.ref C0) = some true
  q7_1 : PySem.W.exmOne K (.ref C7) (.ref C1) = some false
  q7_2 : PySem.W.exmOne K (.ref C7) (.ref C2) = some false
  q7_3 : PySem.W.exmOne K (.ref C7) (.ref C3) = some false
  q7_4 : PySem.W.exmOne K (.ref C7) (.ref C4) = some false
  q7_5 : PySem.W.exmOne K (.ref C7) (.ref C5) = some false
  q7_6 : PySem.W.exmOne K (.ref C7) (.ref C6) = some false
  q7_7 : PySem.W.exmOne K (.ref C7) (.ref C7) = some true
  q7_8 : PySem.W.exmOne K (.ref C7) (.ref C8) = some false
  q7_9 : PySem.W.exmOne K (.ref C7) (.ref C9) = some false
  q8_0 : PySem.W.exmOne K (.ref C8) (.ref C0) = some true
  q8_1 : PySem.W.exmOne K (.ref C8) (.ref C1) = some false
  q8_2 : PySem.W.exmOne K (.ref C8) (.ref C2) = some false
  q8_3 : PySem.W.exmOne K (.ref C8) (.ref C3) = some false
  q8_4 : PySem.W.exmOne K (.ref C8) (.ref C4) = some false
  q8_5 : PySem.W.exmOne K (.ref C8) (.ref C5) = some false
  q8_6 : PySem.W.exmOne K (.ref C8) (.ref C6) = some false
  q8_7 : PySem.W.exmOne K (.ref C8) (.ref C7) = some false
  q8_8 : PySem.W.exmOne K (.ref C8) (.ref C8) = some true
  q8_9 : PySem.W.exmOne K (.ref C8) (.ref C9) = some false
  q9_0 : PySem.W.exmOne K (.ref C9) (.ref C0) = some true
  q9_1 : PySem.W.exmOne K (.ref C9) (.ref C1) = some false
  q9_2 : PySem.W.exmOne K (.ref C9) (.ref C2) = some false
  q9_3 : PySem.W.exmOne K (.ref C9) (.ref C3) = some false
  q9_4 : PySem.W.exmOne K (.ref C9) (.ref C4) = some false
  q9_5 : PySem.W.exmOne K (.ref C9) (.ref C5) = some false
  q9_6 : PySem.W.exmOne K (.ref C9) (.ref C6) = some false
  q9_7 : PySem.W.exmOne K (.ref C9) (.ref C7) = some false
  q9_8 : PySem.W.exmOne K (.ref C9) (.ref C8) = some false
  q9_9 : PySem.W.exmOne K (.ref C9) (.ref C9) = some true
  is0 : ExcC K C0 ∧ PySem.W.kitOne K (.ref C0) (.type "ValueError") = some true
  is1 : ExcC K C1 ∧ PySem.W.kitOne K (.ref C1) (.type "ValueError") = some true
  is2 : ExcC K C2 ∧ PySem.W.kitOne K (.ref C2) (.type "ValueError") = some true
  is3 : ExcC K C3 ∧ PySem.W.kitOne K (.ref C3) (.type "ValueError") = some true
  is4 : ExcC K C4 ∧ PySem.W.kitOne K (.ref C4) (.type "ValueError") = some true
  is5 : ExcC K C5 ∧ PySem.W.kitOne K (.ref C5) (.type "ValueError") = some true
  is6 : ExcC K C6 ∧ PySem.W.kitOne K (.ref C6) (.type "ValueError") = some true
  is7 : ExcC K C7 ∧ PySem.W.kitOne K (.ref C7) (.type "ValueError") = some true
  is8 : ExcC K C8 ∧ PySem.W.kitOne K (.ref C8) (.type "ValueError") = some true
  is9 : ExcC K C9 ∧ PySem.W.kitOne K (.ref C9) (.type "ValueError") = some true
  u_PAIRS : KTup K mg "PAIRS" u_PAIRS
  u_ONES : KTup K mg "ONES" u_ONES
  u_KEPT : KTup K mg "KEPT" u_KEPT
theorem x_ChiptrueError (Z : XK P w K mg) : ExcCls P w K mg base 2 "ChiptrueError" ns_ChiptrueError := (ExcCls.ofB Z.e0.m Z.e0.iC Z.e0.tI ((init0 Z.e0).mono (by omega)) (bind0 Z.e0) ⟨Z.ma0, Z.su0, Z.e0.ve, Z.e0.thi, Z.e0.o⟩ Z.e0.hp Z.e0.hn)
theorem x_TooLarge (Z : XK P w K mg) : ExcCls P w K mg base 2 "TooLarge" ns_TooLarge := ExcCls.der Z.e1.m Z.e1.iC Z.e1.tI (init1 Z.e0 Z.e1) (bind1 Z.e1) ⟨Z.ma1, Z.su1, Z.e0.tI, Z.e0.fI, Z.e0.thi⟩ ⟨Z.mb1, Z.sb1, Z.e1.ve, Z.e1.thi, Z.e1.o⟩ Z.e1.hp Z.e1.hn
theorem x_InvalidText (Z : XK P w K mg) : ExcCls P w K mg base 2 "InvalidText" ns_InvalidText := ExcCls.der Z.e2.m Z.e2.iC Z.e2.tI (init2 Z.e0 Z.e2) (bind2 Z.e2) ⟨Z.ma2, Z.su2, Z.e0.tI, Z.e0.fI, Z.e0.thi⟩ ⟨Z.mb2, Z.sb2, Z.e2.ve, Z.e2.thi, Z.e2.o⟩ Z.e2.hp Z.e2.hn
theorem x_InvalidTerm (Z : XK P w K mg) : ExcCls P w K mg base 2 "InvalidTerm" ns_InvalidTerm := ExcCls.der Z.e3.m Z.e3.iC Z.e3.tI (init3 Z.e0 Z.e3) (bind3 Z.e3) ⟨Z.ma3, Z.su3, Z.e0.tI, Z.e0.fI, Z.e0.thi⟩ ⟨Z.mb3, Z.sb3, Z.e3.ve, Z.e3.thi, Z.e3.o⟩ Z.e3.hp Z.e3.hn
theorem x_InvalidChip (Z : XK P w K mg) : ExcCls P w K mg base 2 "InvalidChip" ns_InvalidChip := ExcCls.der Z.e4.m Z.e4.iC Z.e4.tI (init4 Z.e0 Z.e4) (bind4 Z.e4) ⟨Z.ma4, Z.su4, Z.e0.tI, Z.e0.fI, Z.e0.thi⟩ ⟨Z.mb4, Z.sb4, Z.e4.ve, Z.e4.thi, Z.e4.o⟩ Z.e4.hp Z.e4.hn
theorem x_InvalidNet (Z : XK P w K mg) : ExcCls P w K mg base 2 "InvalidNet" ns_InvalidNet := ExcCls.der Z.e5.m Z.e5.iC Z.e5.tI (init5 Z.e0 Z.e5) (bind5 Z.e5) ⟨Z.ma5, Z.su5, Z.e0.tI, Z.e0.fI, Z.e0.thi⟩ ⟨Z.mb5, Z.sb5, Z.e5.ve, Z.e5.thi, Z.e5.o⟩ Z.e5.hp Z.e5.hn
theorem x_InvalidLibrary (Z : XK P w K mg) : ExcCls P w K mg base 2 "InvalidLibrary" ns_InvalidLibrary := ExcCls.der Z.e6.m Z.e6.iC Z.e6.tI (init6 Z.e0 Z.e6) (bind6 Z.e6) ⟨Z.ma6, Z.su6, Z.e0.tI, Z.e0.fI, Z.e0.thi⟩ ⟨Z.mb6, Z.sb6, Z.e6.ve, Z.e6.thi, Z.e6.o⟩ Z.e6.hp Z.e6.hn
theorem x_InvalidMade (Z : XK P w K mg) : ExcCls P w K mg base 2 "InvalidMade" ns_InvalidMade := ExcCls.der Z.e7.m Z.e7.iC Z.e7.tI (init7 Z.e0 Z.e7) (bind7 Z.e7) ⟨Z.ma7, Z.su7, Z.e0.tI, Z.e0.fI, Z.e0.thi⟩ ⟨Z.mb7, Z.sb7, Z.e7.ve, Z.e7.thi, Z.e7.o⟩ Z.e7.hp Z.e7.hn
theorem x_InvalidGrid (Z : XK P w K mg) : ExcCls P w K mg base 2 "InvalidGrid" ns_InvalidGrid := ExcCls.der Z.e8.m Z.e8.iC Z.e8.tI (init8 Z.e0 Z.e8) (bind8 Z.e8) ⟨Z.ma8, Z.su8, Z.e0.tI, Z.e0.fI, Z.e0.thi⟩ ⟨Z.mb8, Z.sb8, Z.e8.ve, Z.e8.thi, Z.e8.o⟩ Z.e8.hp Z.e8.hn
theorem x_InvalidLog (Z : XK P w K mg) : ExcCls P w K mg base 2 "InvalidLog" ns_InvalidLog := ExcCls.der Z.e9.m Z.e9.iC Z.e9.tI (init9 Z.e0 Z.e9) (bind9 Z.e9) ⟨Z.ma9, Z.su9, Z.e0.tI, Z.e0.fI, Z.e0.thi⟩ ⟨Z.mb9, Z.sb9, Z.e9.ve, Z.e9.thi, Z.e9.o⟩ Z.e9.hp Z.e9.hn
theorem k_ChiptrueError (Z : XK P w K mg) : Catches K mg tabX "ChiptrueError" := by
  refine ⟨_, Z.e0.m, fun y b h C hC => ?_⟩
  unfold tabX at h
  split at h
  · rename_i hy
    obtain ⟨hy, _⟩ := hy
    simp only [List.mem_cons, List.not_mem_nil, or_false] at hy
    rcases hy with rfl | rfl | rfl | rfl | rfl | rfl | rfl | rfl | rfl | rfl
    · rw [Z.e0.m] at hC; cases hC; cases h; exact Z.q0_0
    · rw [Z.e1.m] at hC; cases hC; cases h; exact Z.q1_0
    · rw [Z.e2.m] at hC; cases hC; cases h; exact Z.q2_0
    · rw [Z.e3.m] at hC; cases hC; cases h; exact Z.q3_0
    · rw [Z.e4.m] at hC; cases hC; cases h; exact Z.q4_0
    · rw [Z.e5.m] at hC; cases hC; cases h; exact Z.q5_0
    · rw [Z.e6.m] at hC; cases hC; cases h; exact Z.q6_0
    · rw [Z.e7.m] at hC; cases hC; cases h; exact Z.q7_0
    · rw [Z.e8.m] at hC; cases hC; cases h; exact Z.q8_0
    · rw [Z.e9.m] at hC; cases hC; cases h; exact Z.q9_0
  · cases h
theorem k_TooLarge (Z : XK P w K mg) : Catches K mg tabX "TooLarge" := by
  refine ⟨_, Z.e1.m, fun y b h C hC => ?_⟩
  unfold tabX at h
  split at h
  · rename_i hy
    obtain ⟨hy, _⟩ := hy
    simp only [List.mem_cons, List.not_mem_nil, or_false] at hy
    rcases hy with rfl | rfl | rfl | rfl | rfl | rfl | rfl | rfl | rfl | rfl
    · rw [Z.e0.m] at hC; cases hC; cases h; exact Z.q0_1
    · rw [Z.e1.m] at hC; cases hC; cases h; exact Z.q1_1
    · rw [Z.e2.m] at hC; cases hC; cases h; exact Z.q2_1
    · rw [Z.e3.m] at hC; cases hC; cases h; exact Z.q3_1
    · rw [Z.e4.m] at hC; cases hC; cases h; exact Z.q4_1
    · rw [Z.e5.m] at hC; cases hC; cases h; exact Z.q5_1
    · rw [Z.e6.m] at hC; cases hC; cases h; exact Z.q6_1
    · rw [Z.e7.m] at hC; cases hC; cases h; exact Z.q7_1
    · rw [Z.e8.m] at hC; cases hC; cases h; exact Z.q8_1
    · rw [Z.e9.m] at hC; cases hC; cases h; exact Z.q9_1
  · cases h
theorem k_InvalidText (Z : XK P w K mg) : Catches K mg tabX "InvalidText" := by
  refine ⟨_, Z.e2.m, fun y b h C hC => ?_⟩
  unfold tabX at h
  split at h
  · rename_i hy
    obtain ⟨hy, _⟩ := hy
    simp only [List.mem_cons, List.not_mem_nil, or_false] at hy
    rcases hy with rfl | rfl | rfl | rfl | rfl | rfl | rfl | rfl | rfl | rfl
    · rw [Z.e0.m] at hC; cases hC; cases h; exact Z.q0_2
    · rw [Z.e1.m] at hC; cases hC; cases h; exact Z.q1_2
    · rw [Z.e2.m] at hC; cases hC; cases h; exact Z.q2_2
    · rw [Z.e3.m] at hC; cases hC; cases h; exact Z.q3_2
    · rw [Z.e4.m] at hC; cases hC; cases h; exact Z.q4_2
    · rw [Z.e5.m] at hC; cases hC; cases h; exact Z.q5_2
    · rw [Z.e6.m] at hC; cases hC; cases h; exact Z.q6_2
    · rw [Z.e7.m] at hC; cases hC; cases h; exact Z.q7_2
    · rw [Z.e8.m] at hC; cases hC; cases h; exact Z.q8_2
    · rw [Z.e9.m] at hC; cases hC; cases h; exact Z.q9_2
  · cases h
theorem k_InvalidTerm (Z : XK P w K mg) : Catches K mg tabX "InvalidTerm" := by
  refine ⟨_, Z.e3.m, fun y b h C hC => ?_⟩
  unfold tabX at h
  split at h
  · rename_i hy
    obtain ⟨hy, _⟩ := hy
    simp only [List.mem_cons, List.not_mem_nil, or_false] at hy
    rcases hy with rfl | rfl | rfl | rfl | rfl | rfl | rfl | rfl | rfl | rfl
    · rw [Z.e0.m] at hC; cases hC; cases h; exact Z.q0_3
    · rw [Z.e1.m] at hC; cases hC; cases h; exact Z.q1_3
    · rw [Z.e2.m] at hC; cases hC; cases h; exact Z.q2_3
    · rw [Z.e3.m] at hC; cases hC; cases h; exact Z.q3_3
    · rw [Z.e4.m] at hC; cases hC; cases h; exact Z.q4_3
    · rw [Z.e5.m] at hC; cases hC; cases h; exact Z.q5_3
    · rw [Z.e6.m] at hC; cases hC; cases h; exact Z.q6_3
    · rw [Z.e7.m] at hC; cases hC; cases h; exact Z.q7_3
    · rw [Z.e8.m] at hC; cases hC; cases h; exact Z.q8_3
    · rw [Z.e9.m] at hC; cases hC; cases h; exact Z.q9_3
  · cases h
theorem k_InvalidChip (Z : XK P w K mg) : Catches K mg tabX "InvalidChip" := by
  refine ⟨_, Z.e4.m, fun y b h C hC => ?_⟩
  unfold tabX at h
  split at h
  · rename_i hy
    obtain ⟨hy, _⟩ := hy
    simp only [List.mem_cons, List.not_mem_nil, or_false] at hy
    rcases hy with rfl | rfl | rfl | rfl | rfl | rfl | rfl | rfl | rfl | rfl
    · rw [Z.e0.m] at hC; cases hC; cases h; exact Z.q0_4
    · rw [Z.e1.m] at hC; cases hC; cases h; exact Z.q1_4
    · rw [Z.e2.m] at hC; cases hC; cases h; exact Z.q2_4
    · rw [Z.e3.m] at hC; cases hC; cases h; exact Z.q3_4
    · rw [Z.e4.m] at hC; cases hC; cases h; exact Z.q4_4
    · rw [Z.e5.m] at hC; cases hC; cases h; exact Z.q5_4
    · rw [Z.e6.m] at hC; cases hC; cases h; exact Z.q6_4
    · rw [Z.e7.m] at hC; cases hC; cases h; exact Z.q7_4
    · rw [Z.e8.m] at hC; cases hC; cases h; exact Z.q8_4
    · rw [Z.e9.m] at hC; cases hC; cases h; exact Z.q9_4
  · cases h
theorem k_InvalidNet (Z : XK P w K mg) : Catches K mg tabX "InvalidNet" := by
  refine ⟨_, Z.e5.m, fun y b h C hC => ?_⟩
  unfold tabX at h
  split at h
  · rename_i hy
    obtain ⟨hy, _⟩ := hy
    simp only [List.mem_cons, List.not_mem_nil, or_false] at hy
    rcases hy with rfl | rfl | rfl | rfl | rfl | rfl | rfl | rfl | rfl | rfl
    · rw [Z.e0.m] at hC; cases hC; cases h; exact Z.q0_5
    · rw [Z.e1.m] at hC; cases hC; cases h; exact Z.q1_5
    · rw [Z.e2.m] at hC; cases hC; cases h; exact Z.q2_5
    · rw [Z.e3.m] at hC; cases hC; cases h; exact Z.q3_5
    · rw [Z.e4.m] at hC; cases hC; cases h; exact Z.q4_5
    · rw [Z.e5.m] at hC; cases hC; cases h; exact Z.q5_5
    · rw [Z.e6.m] at hC; cases hC; cases h; exact Z.q6_5
    · rw [Z.e7.m] at hC; cases hC; cases h; exact Z.q7_5
    · rw [Z.e8.m] at hC; cases hC; cases h; exact Z.q8_5
    · rw [Z.e9.m] at hC; cases hC; cases h; exact Z.q9_5
  · cases h
theorem k_InvalidLibrary (Z : XK P w K mg) : Catches K mg tabX "InvalidLibrary" := by
  refine ⟨_, Z.e6.m, fun y b h C hC => ?_⟩
  unfold tabX at h
  split at h
  · rename_i hy
    obtain ⟨hy, _⟩ := hy
    simp only [List.mem_cons, List.not_mem_nil, or_false] at hy
    rcases hy with rfl | rfl | rfl | rfl | rfl | rfl | rfl | rfl | rfl | rfl
    · rw [Z.e0.m] at hC; cases hC; cases h; exact Z.q0_6
    · rw [Z.e1.m] at hC; cases hC; cases h; exact Z.q1_6
    · rw [Z.e2.m] at hC; cases hC; cases h; exact Z.q2_6
    · rw [Z.e3.m] at hC; cases hC; cases h; exact Z.q3_6
    · rw [Z.e4.m] at hC; cases hC; cases h; exact Z.q4_6
    · rw [Z.e5.m] at hC; cases hC; cases h; exact Z.q5_6
    · rw [Z.e6.m] at hC; cases hC; cases h; exact Z.q6_6
    · rw [Z.e7.m] at hC; cases hC; cases h; exact Z.q7_6
    · rw [Z.e8.m] at hC; cases hC; cases h; exact Z.q8_6
    · rw [Z.e9.m] at hC; cases hC; cases h; exact Z.q9_6
  · cases h
theorem k_InvalidMade (Z : XK P w K mg) : Catches K mg tabX "InvalidMade" := by
  refine ⟨_, Z.e7.m, fun y b h C hC => ?_⟩
  unfold tabX at h
  split at h
  · rename_i hy
    obtain ⟨hy, _⟩ := hy
    simp only [List.mem_cons, List.not_mem_nil, or_false] at hy
    rcases hy with rfl | rfl | rfl | rfl | rfl | rfl | rfl | rfl | rfl | rfl
    · rw [Z.e0.m] at hC; cases hC; cases h; exact Z.q0_7
    · rw [Z.e1.m] at hC; cases hC; cases h; exact Z.q1_7
    · rw [Z.e2.m] at hC; cases hC; cases h; exact Z.q2_7
    · rw [Z.e3.m] at hC; cases hC; cases h; exact Z.q3_7
    · rw [Z.e4.m] at hC; cases hC; cases h; exact Z.q4_7
    · rw [Z.e5.m] at hC; cases hC; cases h; exact Z.q5_7
    · rw [Z.e6.m] at hC; cases hC; cases h; exact Z.q6_7
    · rw [Z.e7.m] at hC; cases hC; cases h; exact Z.q7_7
    · rw [Z.e8.m] at hC; cases hC; cases h; exact Z.q8_7
    · rw [Z.e9.m] at hC; cases hC; cases h; exact Z.q9_7
  · cases h
theorem k_InvalidGrid (Z : XK P w K mg) : Catches K mg tabX "InvalidGrid" := by
  refine ⟨_, Z.e8.m, fun y b h C hC => ?_⟩
  unfold tabX at h
  split at h
  · rename_i hy
    obtain ⟨hy, _⟩ := hy
    simp only [List.mem_cons, List.not_mem_nil, or_false] at hy
    rcases hy with rfl | rfl | rfl | rfl | rfl | rfl | rfl | rfl | rfl | rfl
    · rw [Z.e0.m] at hC; cases hC; cases h; exact Z.q0_8
    · rw [Z.e1.m] at hC; cases hC; cases h; exact Z.q1_8
    · rw [Z.e2.m] at hC; cases hC; cases h; exact Z.q2_8
    · rw [Z.e3.m] at hC; cases hC; cases h; exact Z.q3_8
    · rw [Z.e4.m] at hC; cases hC; cases h; exact Z.q4_8
    · rw [Z.e5.m] at hC; cases hC; cases h; exact Z.q5_8
    · rw [Z.e6.m] at hC; cases hC; cases h; exact Z.q6_8
    · rw [Z.e7.m] at hC; cases hC; cases h; exact Z.q7_8
    · rw [Z.e8.m] at hC; cases hC; cases h; exact Z.q8_8
    · rw [Z.e9.m] at hC; cases hC; cases h; exact Z.q9_8
  · cases h
theorem k_InvalidLog (Z : XK P w K mg) : Catches K mg tabX "InvalidLog" := by
  refine ⟨_, Z.e9.m, fun y b h C hC => ?_⟩
  unfold tabX at h
  split at h
  · rename_i hy
    obtain ⟨hy, _⟩ := hy
    simp only [List.mem_cons, List.not_mem_nil, or_false] at hy
    rcases hy with rfl | rfl | rfl | rfl | rfl | rfl | rfl | rfl | rfl | rfl
    · rw [Z.e0.m] at hC; cases hC; cases h; exact Z.q0_9
    · rw [Z.e1.m] at hC; cases hC; cases h; exact Z.q1_9
    · rw [Z.e2.m] at hC; cases hC; cases h; exact Z.q2_9
    · rw [Z.e3.m] at hC; cases hC; cases h; exact Z.q3_9
    · rw [Z.e4.m] at hC; cases hC; cases h; exact Z.q4_9
    · rw [Z.e5.m] at hC; cases hC; cases h; exact Z.q5_9
    · rw [Z.e6.m] at hC; cases hC; cases h; exact Z.q6_9
    · rw [Z.e7.m] at hC; cases hC; cases h; exact Z.q7_9
    · rw [Z.e8.m] at hC; cases hC; cases h; exact Z.q8_9
    · rw [Z.e9.m] at hC; cases hC; cases h; exact Z.q9_9
  · cases h
theorem f_place (Z : XK P w K mg) : FieldsOk mg K clX "place" := by
  intro y hy C hC
  simp only [List.mem_cons, List.not_mem_nil, or_false] at hy
  rcases hy with rfl | rfl | rfl | rfl | rfl | rfl | rfl | rfl | rfl | rfl
  · rw [Z.e0.m] at hC; cases hC; exact ⟨Z.e0.xf, Z.e0.hp⟩
  · rw [Z.e1.m] at hC; cases hC; exact ⟨Z.e1.xf, Z.e1.hp⟩
  · rw [Z.e2.m] at hC; cases hC; exact ⟨Z.e2.xf, Z.e2.hp⟩
  · rw [Z.e3.m] at hC; cases hC; exact ⟨Z.e3.xf, Z.e3.hp⟩
  · rw [Z.e4.m] at hC; cases hC; exact ⟨Z.e4.xf, Z.e4.hp⟩
  · rw [Z.e5.m] at hC; cases hC; exact ⟨Z.e5.xf, Z.e5.hp⟩
  · rw [Z.e6.m] at hC; cases hC; exact ⟨Z.e6.xf, Z.e6.hp⟩
  · rw [Z.e7.m] at hC; cases hC; exact ⟨Z.e7.xf, Z.e7.hp⟩
  · rw [Z.e8.m] at hC; cases hC; exact ⟨Z.e8.xf, Z.e8.hp⟩
  · rw [Z.e9.m] at hC; cases hC; exact ⟨Z.e9.xf, Z.e9.hp⟩
theorem f_name (Z : XK P w K mg) : FieldsOk mg K clX "name" := by
  intro y hy C hC
  simp only [List.mem_cons, List.not_mem_nil, or_false] at hy
  rcases hy with rfl | rfl | rfl | rfl | rfl | rfl | rfl | rfl | rfl | rfl
  · rw [Z.e0.m] at hC; cases hC; exact ⟨Z.e0.xf, Z.e0.hn⟩
  · rw [Z.e1.m] at hC; cases hC; exact ⟨Z.e1.xf, Z.e1.hn⟩
  · rw [Z.e2.m] at hC; cases hC; exact ⟨Z.e2.xf, Z.e2.hn⟩
  · rw [Z.e3.m] at hC; cases hC; exact ⟨Z.e3.xf, Z.e3.hn⟩
  · rw [Z.e4.m] at hC; cases hC; exact ⟨Z.e4.xf, Z.e4.hn⟩
  · rw [Z.e5.m] at hC; cases hC; exact ⟨Z.e5.xf, Z.e5.hn⟩
  · rw [Z.e6.m] at hC; cases hC; exact ⟨Z.e6.xf, Z.e6.hn⟩
  · rw [Z.e7.m] at hC; cases hC; exact ⟨Z.e7.xf, Z.e7.hn⟩
  · rw [Z.e8.m] at hC; cases hC; exact ⟨Z.e8.xf, Z.e8.hn⟩
  · rw [Z.e9.m] at hC; cases hC; exact ⟨Z.e9.xf, Z.e9.hn⟩
theorem isve (Z : XK P w K mg) : IsOk mg K clX (.type "ValueError") := by
  intro y hy C hC
  simp only [List.mem_cons, List.not_mem_nil, or_false] at hy
  rcases hy with rfl | rfl | rfl | rfl | rfl | rfl | rfl | rfl | rfl | rfl
  · rw [Z.e0.m] at hC; cases hC; exact Z.is0
  · rw [Z.e1.m] at hC; cases hC; exact Z.is1
  · rw [Z.e2.m] at hC; cases hC; exact Z.is2
  · rw [Z.e3.m] at hC; cases hC; exact Z.is3
  · rw [Z.e4.m] at hC; cases hC; exact Z.is4
  · rw [Z.e5.m] at hC; cases hC; exact Z.is5
  · rw [Z.e6.m] at hC; cases hC; exact Z.is6
  · rw [Z.e7.m] at hC; cases hC; exact Z.is7
  · rw [Z.e8.m] at hC; cases hC; exact Z.is8
  · rw [Z.e9.m] at hC; cases hC; exact Z.is9
end
section
variable {P0 : Addr}
variable {P : Program} {w : World} {K : PySem.W.Frag} {mg : Str → Option Value} {base : Heap}
abbrev s_is_count : Stmt := topS 14
abbrev N_is_count : List Str := ["value"]
theorem sc_is_count : FnScope N_is_count ["value"] (defScope s_is_count) := ⟨rfl, rfl, rfl, by decide +kernel, rfl, by decide +kernel, by decide +kernel⟩
@[irreducible] noncomputable def b_is_count : MS := (mRet (mAndV (mIsi "int" (mVar 0)) (mAndV (mNotV (mIsi "bool" (mVar 0))) (mBin oGe (mVar 0) (mC (.int 0))))))
theorem w_is_count (G : GK K mg) {m : List D → List Cell → Res D} (hm : ∀ ds S, ds.length = 1 → RefR S (m ds S) (b_is_count (startD 1 ds) S)) : FnM P w K mg base (0 + 1) "is_count" 1 m := by
  refine FnM.def (ps := ["value"]) G.f_is_count sc_is_count (fun f cdv A outer s H E tk hp hr => ?_) hm
  unfold b_is_count
  exact (sb_one (ss_ret (se_and (se_isi G.b_isinstance G.b_int (se_var 0)) (se_and (se_not (se_isi G.b_isinstance G.b_bool (se_var 0))) (se_one (se_cmp od_ge (se_var 0) se_int))))))
abbrev s_is_width : Stmt := topS 15
abbrev N_is_width : List Str := ["value"]
theorem sc_is_width : FnScope N_is_width ["value"] (defScope s_is_width) := ⟨rfl, rfl, rfl, by decide +kernel, rfl, by decide +kernel, by decide +kernel⟩
@[irreducible] noncomputable def b_is_width : MS := (mRet (mAndV (mCall m_is_count (mCons (mVar 0) mNil)) (mChain oLe oLe (mC (.int 1)) (mVar 0) (mC (.int 16)))))
theorem w_is_width (G : GK K mg) (h_is_count : FnM P w K mg base 1 "is_count" 1 m_is_count) {m : List D → List Cell → Res D} (hm : ∀ ds S, ds.length = 1 → RefR S (m ds S) (b_is_width (startD 1 ds) S)) : FnM P w K mg base (1 + 1) "is_width" 1 m := by
  refine FnM.def (ps := ["value"]) G.f_is_width sc_is_width (fun f cdv A outer s H E tk hp hr => ?_) hm
  unfold b_is_width
  exact (sb_one (ss_ret (se_and (se_fn h_is_count (hr.mono (by omega)) tk (sa_cons (se_var 0) sa_nil) (len_cons len_nil)) (se_one (se_chain od_le od_le se_int (se_var 0) (se_globI G.c_WIDEST))))))
abbrev s_is_word : Stmt := topS 16
abbrev N_is_word : List Str := ["value", "width"]
theorem sc_is_word : FnScope N_is_word ["value", "width"] (defScope s_is_word) := ⟨rfl, rfl, rfl, by decide +kernel, rfl, by decide +kernel, by decide +kernel⟩
@[irreducible] noncomputable def b_is_word : MS := (mRet (mAndV (mCall m_is_count (mCons (mVar 0) mNil)) (mBin oLt (mVar 0) (mBin oShl (mC (.int 1)) (mVar 1)))))
theorem w_is_word (G : GK K mg) (h_is_count : FnM P w K mg base 1 "is_count" 1 m_is_count) {m : List D → List Cell → Res D} (hm : ∀ ds S, ds.length = 2 → RefR S (m ds S) (b_is_word (startD 2 ds) S)) : FnM P w K mg base (1 + 1) "is_word" 2 m := by
  refine FnM.def (ps := ["value", "width"]) G.f_is_word sc_is_word (fun f cdv A outer s H E tk hp hr => ?_) hm
  unfold b_is_word
  exact (sb_one (ss_ret (se_and (se_fn h_is_count (hr.mono (by omega)) tk (sa_cons (se_var 0) sa_nil) (len_cons len_nil)) (se_one (se_cmp od_lt (se_var 0) (se_bin od_shl se_int (se_var 1)))))))
abbrev s_is_name : Stmt := topS 21
abbrev N_is_name : List Str := ["value", "one"]
theorem sc_is_name : FnScope N_is_name ["value"] (defScope s_is_name) := ⟨rfl, rfl, rfl, by decide +kernel, rfl, by decide +kernel, by decide +kernel⟩
@[irreducible] noncomputable def b_is_name : MS := (mSeq (mIf (mOr (mNot (mTru (mIsi "str" (mVar 0)))) (mOr (mTst (mBin oEq (mVar 0) (mC (.str (cs ""))))) (mOr (mTst (mBin oInA (mVar 0) (mC (.tup (u_KEPT.map D.str))))) (mNot (mTst (mChain oLe oLe (mC (.str (cs "a"))) (mBin oIxA (mVar 0) (mC (.int 0))) (mC (.str (cs "z")))))))))
  (mRet (mC (.bl false)))
  mNext)
  (mRet (mF oAllF (mLc (mSeqI (mVar 0)) [1] (gN 1) mYes (mOrV (mChain oLe oLe (mC (.str (cs "a"))) (mVar 1) (mC (.str (cs "z")))) (mOrV (mChain oLe oLe (mC (.str (cs "0"))) (mVar 1) (mC (.str (cs "9")))) (mBin oEq (mVar 1) (mC (.str (cs "_"))))))))))
theorem w_is_name (G : GK K mg) (Z : XK P w K mg) {m : List D → List Cell → Res D} (hm : ∀ ds S, ds.length = 1 → RefR S (m ds S) (b_is_name (startD 2 ds) S)) : FnM P w K mg base (3 + 1) "is_name" 1 m := by
  refine FnM.def (ps := ["value"]) G.f_is_name sc_is_name (fun f cdv A outer s H E tk hp hr => ?_) hm
  unfold b_is_name
  exact (sb_cons (ss_if (st_sw (sw_or (st_not (st_tru (se_isi G.b_isinstance G.b_str (se_var 0)))) (sw_or (st_cmp (od_eq hr.units) (se_var 0) se_str) (sw_or (st_cmp (od_inA hr.units) (se_var 0) (se_globT Z.u_KEPT)) (sw_or1 (st_not (st_chain od_le od_le se_str (se_ixA hr.units (se_var 0) se_int) se_str)))))))
  (sb_one (ss_ret se_bl))
  sb_nil)
  (sb_one (ss_ret (se_callFB (cf_all rfl) G.b_all (sl_lc [(("one" : Str), 1)] rfl sc_is_name.nd (si_seq (se_var 0)) (blkOk_by (N := N_is_name) (sc := defScope s_is_name) (by decide +kernel)) (fun _ _ _ _ _ => (sgw_name 1 sc_is_name.nd)) (fun _ _ _ _ _ => sts_nil) (fun _ _ _ _ _ => (se_or (se_chain od_le od_le se_str (se_var 1) se_str) (se_or (se_chain od_le od_le se_str (se_var 1) se_str) (se_one (se_cmp (od_eq hr.units) (se_var 1) se_str))))))))))
abbrev s_is_term : Stmt := topS 22
abbrev N_is_term : List Str := ["value", "kind", "one"]
theorem sc_is_term : FnScope N_is_term ["value"] (defScope s_is_term) := ⟨rfl, rfl, rfl, by decide +kernel, rfl, by decide +kernel, by decide +kernel⟩
@[irreducible] noncomputable def b_is_term (r_is_term : List D → List Cell → Res D) : MS := (mSeq (mIf (mOr (mNot (mTru (mIsi "tuple" (mVar 0)))) (mOr (mTst (mBin oLt (mB oLenA (mCons (mVar 0) mNil)) (mC (.int 2)))) (mNot (mTru (mIsi "str" (mBin oIxA (mVar 0) (mC (.int 0))))))))
  (mRet (mC (.bl false)))
  mNext)
  (mSeq (mSet 1 (mBin oIxA (mVar 0) (mC (.int 0))))
  (mSeq (mIf (mTst (mBin oEq (mVar 1) (mC (.str (cs "name")))))
  (mRet (mAndV (mBin oEq (mB oLenA (mCons (mVar 0) mNil)) (mC (.int 2))) (mCall m_is_name (mCons (mBin oIxA (mVar 0) (mC (.int 1))) mNil))))
  mNext)
  (mSeq (mIf (mTst (mBin oEq (mVar 1) (mC (.str (cs "const")))))
  (mRet (mAndV (mBin oEq (mB oLenA (mCons (mVar 0) mNil)) (mC (.int 3))) (mAndV (mCall m_is_width (mCons (mBin oIxA (mVar 0) (mC (.int 1))) mNil)) (mCall m_is_word (mCons (mBin oIxA (mVar 0) (mC (.int 2))) (mCons (mBin oIxA (mVar 0) (mC (.int 1))) mNil))))))
  mNext)
  (mSeq (mIf (mTst (mBin oInA (mVar 1) (mC (.tup (u_ONES.map D.str)))))
  (mRet (mAndV (mBin oEq (mB oLenA (mCons (mVar 0) mNil)) (mC (.int 2))) (mCall r_is_term (mCons (mBin oIxA (mVar 0) (mC (.int 1))) mNil))))
  mNext)
  (mSeq (mIf (mTst (mBin oInA (mVar 1) (mC (.tup (u_PAIRS.map D.str)))))
  (mRet (mAndV (mBin oEq (mB oLenA (mCons (mVar 0) mNil)) (mC (.int 3))) (mAndV (mCall r_is_term (mCons (mBin oIxA (mVar 0) (mC (.int 1))) mNil)) (mCall r_is_term (mCons (mBin oIxA (mVar 0) (mC (.int 2))) mNil)))))
  mNext)
  (mSeq (mIf (mTst (mBin oEq (mVar 1) (mC (.str (cs "pick")))))
  (mRet (mAndV (mBin oEq (mB oLenA (mCons (mVar 0) mNil)) (mC (.int 4))) (mF oAllF (mLc (mSeqI (mSlice (mVar 0) (mPart (mC (.int 1))) mNoPart)) [2] (gN 2) mYes (mCall r_is_term (mCons (mVar 2) mNil))))))
  mNext)
  (mSeq (mIf (mTst (mBin oEq (mVar 1) (mC (.str (cs "part")))))
  (mSeq (mIf (mOr (mTst (mBin oNe (mB oLenA (mCons (mVar 0) mNil)) (mC (.int 4)))) (mOr (mNot (mTru (mCall m_is_count (mCons (mBin oIxA (mVar 0) (mC (.int 2))) mNil)))) (mNot (mTru (mCall m_is_count (mCons (mBin oIxA (mVar 0) (mC (.int 3))) mNil))))))
    (mRet (mC (.bl false)))
    mNext)
    (mRet (mAndV (mChain oGe oGe (mC (.int 15)) (mBin oIxA (mVar 0) (mC (.int 2))) (mBin oIxA (mVar 0) (mC (.int 3)))) (mCall r_is_term (mCons (mBin oIxA (mVar 0) (mC (.int 1))) mNil)))))
  mNext)
  (mSeq (mIf (mTst (mBin oEq (mVar 1) (mC (.str (cs "join")))))
  (mSeq (mIf (mOr (mTst (mBin oNe (mB oLenA (mCons (mVar 0) mNil)) (mC (.int 2)))) (mOr (mNot (mTru (mIsi "tuple" (mBin oIxA (mVar 0) (mC (.int 1)))))) (mTst (mBin oLt (mB oLenA (mCons (mBin oIxA (mVar 0) (mC (.int 1))) mNil)) (mC (.int 2))))))
    (mRet (mC (.bl false)))
    mNext)
    (mRet (mF oAllF (mLc (mSeqI (mBin oIxA (mVar 0) (mC (.int 1)))) [2] (gN 2) mYes (mCall r_is_term (mCons (mVar 2) mNil))))))
  mNext)
  (mRet (mC (.bl false))))))))))))
theorem w_is_term (G : GK K mg) (Z : XK P w K mg) (h_is_count : FnM P w K mg base 1 "is_count" 1 m_is_count) (h_is_name : FnM P w K mg base 4 "is_name" 1 m_is_name) (h_is_width : FnM P w K mg base 2 "is_width" 1 m_is_width) (h_is_word : FnM P w K mg base 2 "is_word" 2 m_is_word) {k : Nat} (hk : 4 ≤ k) {r_is_term : List D → List Cell → Res D} (h_rec_is_term : FnM P w K mg base k "is_term" 1 r_is_term) {m : List D → List Cell → Res D} (hm : ∀ ds S, ds.length = 1 → RefR S (m ds S) (b_is_term r_is_term (startD 3 ds) S)) : FnM P w K mg base (k + 1) "is_term" 1 m := by
  refine FnM.def (ps := ["value"]) G.f_is_term sc_is_term (fun f cdv A outer s H E tk hp hr => ?_) hm
  unfold b_is_term
  exact (sb_cons (ss_if (st_sw (sw_or (st_not (st_tru (se_isi G.b_isinstance G.b_tuple (se_var 0)))) (sw_or (st_cmp od_lt (se_callB cd_lenA G.b_len (sa_cons (se_var 0) sa_nil)) se_int) (sw_or1 (st_not (st_tru (se_isi G.b_isinstance G.b_str (se_ixA hr.units (se_var 0) se_int))))))))
  (sb_one (ss_ret se_bl))
  sb_nil)
  (sb_cons (ss_set 1 sc_is_term.nd (se_ixA hr.units (se_var 0) se_int))
  (sb_cons (ss_if (st_cmp (od_eq hr.units) (se_var 1) se_str)
  (sb_one (ss_ret (se_and (se_cmp (od_eq hr.units) (se_callB cd_lenA G.b_len (sa_cons (se_var 0) sa_nil)) se_int) (se_one (se_fn h_is_name (hr.mono (by omega)) tk (sa_cons (se_ixA hr.units (se_var 0) se_int) sa_nil) (len_cons len_nil))))))
  sb_nil)
  (sb_cons (ss_if (st_cmp (od_eq hr.units) (se_var 1) se_str)
  (sb_one (ss_ret (se_and (se_cmp (od_eq hr.units) (se_callB cd_lenA G.b_len (sa_cons (se_var 0) sa_nil)) se_int) (se_and (se_fn h_is_width (hr.mono (by omega)) tk (sa_cons (se_ixA hr.units (se_var 0) se_int) sa_nil) (len_cons len_nil)) (se_one (se_fn h_is_word (hr.mono (by omega)) tk (sa_cons (se_ixA hr.units (se_var 0) se_int) (sa_cons (se_ixA hr.units (se_var 0) se_int) sa_nil)) (len_cons (len_cons len_nil))))))))
  sb_nil)
  (sb_cons (ss_if (st_cmp (od_inA hr.units) (se_var 1) (se_globT Z.u_ONES))
  (sb_one (ss_ret (se_and (se_cmp (od_eq hr.units) (se_callB cd_lenA G.b_len (sa_cons (se_var 0) sa_nil)) se_int) (se_one (se_fn h_rec_is_term (hr.mono (by omega)) tk (sa_cons (se_ixA hr.units (se_var 0) se_int) sa_nil) (len_cons len_nil))))))
  sb_nil)
  (sb_cons (ss_if (st_cmp (od_inA hr.units) (se_var 1) (se_globT Z.u_PAIRS))
  (sb_one (ss_ret (se_and (se_cmp (od_eq hr.units) (se_callB cd_lenA G.b_len (sa_cons (se_var 0) sa_nil)) se_int) (se_and (se_fn h_rec_is_term (hr.mono (by omega)) tk (sa_cons (se_ixA hr.units (se_var 0) se_int) sa_nil) (len_cons len_nil)) (se_one (se_fn h_rec_is_term (hr.mono (by omega)) tk (sa_cons (se_ixA hr.units (se_var 0) se_int) sa_nil) (len_cons len_nil)))))))
  sb_nil)
  (sb_cons (ss_if (st_cmp (od_eq hr.units) (se_var 1) se_str)
  (sb_one (ss_ret (se_and (se_cmp (od_eq hr.units) (se_callB cd_lenA G.b_len (sa_cons (se_var 0) sa_nil)) se_int) (se_one (se_callFB (cf_all rfl) G.b_all (sl_lc [(("one" : Str), 2)] rfl sc_is_term.nd (si_seq (se_slice (se_var 0) (so_some se_int) so_none)) (blkOk_by (N := N_is_term) (sc := defScope s_is_term) (by decide +kernel)) (fun _ _ _ _ _ => (sgw_name 2 sc_is_term.nd)) (fun _ _ _ _ _ => sts_nil) (fun _ _ _ _ _ => (se_fn h_rec_is_term (hr.mono (by omega)) takes0 (sa_cons (se_var 2) sa_nil) (len_cons len_nil)))))))))
  sb_nil)
  (sb_cons (ss_if (st_cmp (od_eq hr.units) (se_var 1) se_str)
  (sb_cons (ss_if (st_sw (sw_or (st_cmp (od_ne hr.units) (se_callB cd_lenA G.b_len (sa_cons (se_var 0) sa_nil)) se_int) (sw_or (st_not (st_tru (se_fn h_is_count (hr.mono (by omega)) tk (sa_cons (se_ixA hr.units (se_var 0) se_int) sa_nil) (len_cons len_nil)))) (sw_or1 (st_not (st_tru (se_fn h_is_count (hr.mono (by omega)) tk (sa_cons (se_ixA hr.units (se_var 0) se_int) sa_nil) (len_cons len_nil))))))))
    (sb_one (ss_ret se_bl))
    sb_nil)
    (sb_one (ss_ret (se_and (se_chain od_ge od_ge se_int (se_ixA hr.units (se_var 0) se_int) (se_ixA hr.units (se_var 0) se_int)) (se_one (se_fn h_rec_is_term (hr.mono (by omega)) tk (sa_cons (se_ixA hr.units (se_var 0) se_int) sa_nil) (len_cons len_nil)))))))
  sb_nil)
  (sb_cons (ss_if (st_cmp (od_eq hr.units) (se_var 1) se_str)
  (sb_cons (ss_if (st_sw (sw_or (st_cmp (od_ne hr.units) (se_callB cd_lenA G.b_len (sa_cons (se_var 0) sa_nil)) se_int) (sw_or (st_not (st_tru (se_isi G.b_isinstance G.b_tuple (se_ixA hr.units (se_var 0) se_int)))) (sw_or1 (st_cmp od_lt (se_callB cd_lenA G.b_len (sa_cons (se_ixA hr.units (se_var 0) se_int) sa_nil)) se_int)))))
    (sb_one (ss_ret se_bl))
    sb_nil)
    (sb_one (ss_ret (se_callFB (cf_all rfl) G.b_all (sl_lc [(("one" : Str), 2)] rfl sc_is_term.nd (si_seq (se_ixA hr.units (se_var 0) se_int)) (blkOk_by (N := N_is_term) (sc := defScope s_is_term) (by decide +kernel)) (fun _ _ _ _ _ => (sgw_name 2 sc_is_term.nd)) (fun _ _ _ _ _ => sts_nil) (fun _ _ _ _ _ => (se_fn h_rec_is_term (hr.mono (by omega)) takes0 (sa_cons (se_var 2) sa_nil) (len_cons len_nil))))))))
  sb_nil)
  (sb_one (ss_ret se_bl)))))))))))
abbrev s_check_term : Stmt := topS 23
abbrev N_check_term : List Str := ["value"]
theorem sc_check_term : FnScope N_check_term ["value"] (defScope s_check_term) := ⟨rfl, rfl, rfl, by decide +kernel, rfl, by decide +kernel, by decide +kernel⟩
@[irreducible] noncomputable def b_check_term : MS := (mIf (mNot (mTru (mCall (m_is_term 40) (mCons (mVar 0) mNil))))
  (mRaise "InvalidTerm" ns_InvalidTerm (mC .non))
  mNext)
theorem w_check_term (G : GK K mg) (Z : XK P w K mg) (h_is_term : FnM P w K mg base 45 "is_term" 1 (m_is_term 40)) {m : List D → List Cell → Res D} (hm : ∀ ds S, ds.length = 1 → RefR S (m ds S) (b_check_term (startD 1 ds) S)) : FnM P w K mg base (45 + 1) "check_term" 1 m := by
  refine FnM.def (ps := ["value"]) G.f_check_term sc_check_term (fun f cdv A outer s H E tk hp hr => ?_) hm
  unfold b_check_term
  exact (sb_one (ss_if (st_not (st_tru (se_fn h_is_term (hr.mono (by omega)) tk (sa_cons (se_var 0) sa_nil) (len_cons len_nil))))
  (sb_one (ss_raise (x := "InvalidTerm") rfl tk (x_InvalidTerm Z) (hr.mono (by omega)) se_non rfl rfl))
  sb_nil))
abbrev s_is_input : Stmt := topS 25
abbrev N_is_input : List Str := ["value"]
theorem sc_is_input : FnScope N_is_input ["value"] (defScope s_is_input) := ⟨rfl, rfl, rfl, by decide +kernel, rfl, by decide +kernel, by decide +kernel⟩
@[irreducible] noncomputable def b_is_input : MS := (mRet (mAndV (mIsi "tuple" (mVar 0)) (mAndV (mBin oEq (mB oLenA (mCons (mVar 0) mNil)) (mC (.int 2))) (mAndV (mCall m_is_name (mCons (mBin oIxA (mVar 0) (mC (.int 0))) mNil)) (mCall m_is_width (mCons (mBin oIxA (mVar 0) (mC (.int 1))) mNil))))))
theorem w_is_input (G : GK K mg) (h_is_name : FnM P w K mg base 4 "is_name" 1 m_is_name) (h_is_width : FnM P w K mg base 2 "is_width" 1 m_is_width) {m : List D → List Cell → Res D} (hm : ∀ ds S, ds.length = 1 → RefR S (m ds S) (b_is_input (startD 1 ds) S)) : FnM P w K mg base (4 + 1) "is_input" 1 m := by
  refine FnM.def (ps := ["value"]) G.f_is_input sc_is_input (fun f cdv A outer s H E tk hp hr => ?_) hm
  unfold b_is_input
  exact (sb_one (ss_ret (se_and (se_isi G.b_isinstance G.b_tuple (se_var 0)) (se_and (se_cmp (od_eq hr.units) (se_callB cd_lenA G.b_len (sa_cons (se_var 0) sa_nil)) se_int) (se_and (se_fn h_is_name (hr.mono (by omega)) tk (sa_cons (se_ixA hr.units (se_var 0) se_int) sa_nil) (len_cons len_nil)) (se_one (se_fn h_is_width (hr.mono (by omega)) tk (sa_cons (se_ixA hr.units (se_var 0) se_int) sa_nil) (len_cons len_nil))))))))
abbrev s_is_register : Stmt := topS 26
abbrev N_is_register : List Str := ["value"]
theorem sc_is_register : FnScope N_is_register ["value"] (defScope s_is_register) := ⟨rfl, rfl, rfl, by decide +kernel, rfl, by decide +kernel, by decide +kernel⟩
@[irreducible] noncomputable def b_is_register : MS := (mSeq (mIf (mOr (mNot (mTru (mIsi "tuple" (mVar 0)))) (mOr (mTst (mBin oNe (mB oLenA (mCons (mVar 0) mNil)) (mC (.int 5)))) (mOr (mNot (mTru (mCall m_is_input (mCons (mSlice (mVar 0) mNoPart (mPart (mC (.int 2)))) mNil)))) (mNot (mTru (mCall m_is_word (mCons (mBin oIxA (mVar 0) (mC (.int 2))) (mCons (mBin oIxA (mVar 0) (mC (.int 1))) mNil))))))))
  (mRet (mC (.bl false)))
  mNext)
  (mRet (mAndV (mCall (m_is_term 40) (mCons (mBin oIxA (mVar 0) (mC (.int 3))) mNil)) (mOrV (mBin oIsN (mBin oIxA (mVar 0) (mC (.int 4))) (mC .non)) (mCall (m_is_term 40) (mCons (mBin oIxA (mVar 0) (mC (.int 4))) mNil))))))
theorem w_is_register (G : GK K mg) (h_is_input : FnM P w K mg base 5 "is_input" 1 m_is_input) (h_is_term : FnM P w K mg base 45 "is_term" 1 (m_is_term 40)) (h_is_word : FnM P w K mg base 2 "is_word" 2 m_is_word) {m : List D → List Cell → Res D} (hm : ∀ ds S, ds.length = 1 → RefR S (m ds S) (b_is_register (startD 1 ds) S)) : FnM P w K mg base (45 + 1) "is_register" 1 m := by
  refine FnM.def (ps := ["value"]) G.f_is_register sc_is_register (fun f cdv A outer s H E tk hp hr => ?_) hm
  unfold b_is_register
  exact (sb_cons (ss_if (st_sw (sw_or (st_not (st_tru (se_isi G.b_isinstance G.b_tuple (se_var 0)))) (sw_or (st_cmp (od_ne hr.units) (se_callB cd_lenA G.b_len (sa_cons (se_var 0) sa_nil)) se_int) (sw_or (st_not (st_tru (se_fn h_is_input (hr.mono (by omega)) tk (sa_cons (se_slice (se_var 0) so_none (so_some se_int)) sa_nil) (len_cons len_nil)))) (sw_or1 (st_not (st_tru (se_fn h_is_word (hr.mono (by omega)) tk (sa_cons (se_ixA hr.units (se_var 0) se_int) (sa_cons (se_ixA hr.units (se_var 0) se_int) sa_nil)) (len_cons (len_cons len_nil))))))))))
  (sb_one (ss_ret se_bl))
  sb_nil)
  (sb_one (ss_ret (se_and (se_fn h_is_term (hr.mono (by omega)) tk (sa_cons (se_ixA hr.units (se_var 0) se_int) sa_nil) (len_cons len_nil)) (se_one (se_or (se_cmp od_isN (se_ixA hr.units (se_var 0) se_int) se_non) (se_one (se_fn h_is_term (hr.mono (by omega)) tk (sa_cons (se_ixA hr.units (se_var 0) se_int) sa_nil) (len_cons len_nil)))))))))
abbrev s_is_named_term : Stmt := topS 27
abbrev N_is_named_term : List Str := ["value"]
theorem sc_is_named_term : FnScope N_is_named_term ["value"] (defScope s_is_named_term) := ⟨rfl, rfl, rfl, by decide +kernel, rfl, by decide +kernel, by decide +kernel⟩
@[irreducible] noncomputable def b_is_named_term : MS := (mRet (mAndV (mIsi "tuple" (mVar 0)) (mAndV (mBin oEq (mB oLenA (mCons (mVar 0) mNil)) (mC (.int 2))) (mAndV (mCall m_is_name (mCons (mBin oIxA (mVar 0) (mC (.int 0))) mNil)) (mCall (m_is_term 40) (mCons (mBin oIxA (mVar 0) (mC (.int 1))) mNil))))))
theorem w_is_named_term (G : GK K mg) (h_is_name : FnM P w K mg base 4 "is_name" 1 m_is_name) (h_is_term : FnM P w K mg base 45 "is_term" 1 (m_is_term 40)) {m : List D → List Cell → Res D} (hm : ∀ ds S, ds.length = 1 → RefR S (m ds S) (b_is_named_term (startD 1 ds) S)) : FnM P w K mg base (45 + 1) "is_named_term" 1 m := by
  refine FnM.def (ps := ["value"]) G.f_is_named_term sc_is_named_term (fun f cdv A outer s H E tk hp hr => ?_) hm
  unfold b_is_named_term
  exact (sb_one (ss_ret (se_and (se_isi G.b_isinstance G.b_tuple (se_var 0)) (se_and (se_cmp (od_eq hr.units) (se_callB cd_lenA G.b_len (sa_cons (se_var 0) sa_nil)) se_int) (se_and (se_fn h_is_name (hr.mono (by omega)) tk (sa_cons (se_ixA hr.units (se_var 0) se_int) sa_nil) (len_cons len_nil)) (se_one (se_fn h_is_term (hr.mono (by omega)) tk (sa_cons (se_ixA hr.units (se_var 0) se_int) sa_nil) (len_cons len_nil))))))))
abbrev s_check_rows : Stmt := topS 29
abbrev N_check_rows : List Str := ["kind", "rows", "is_right", "names", "k"]
theorem sc_check_rows : FnScope N_check_rows ["kind", "rows", "is_right", "names"] (defScope s_check_rows) := ⟨rfl, rfl, rfl, by decide +kernel, rfl, by decide +kernel, by decide +kernel⟩
@[irreducible] noncomputable def b_check_rows (fa_is_right : Addr) (l_is_right : List D → List Cell → Res D) : MS := (mSeq (mIf (mNot (mTru (mIsi "tuple" (mVar 1))))
  (mRaise "InvalidChip" ns_InvalidChip (mTup (mCons (mVar 0) (mCons (mC .non) mNil))))
  mNext)
  (mFor (mRng1 (mCons (mB oLenA (mCons (mVar 1) mNil)) mNil)) (gN 4)
  (mSeq (mIf (mOr (mNot (mTru (mAdr 2 fa_is_right l_is_right (mCons (mBin oIxA (mVar 1) (mVar 4)) mNil)))) (mTst (mBin oInA (mBin oIxA (mBin oIxA (mVar 1) (mVar 4)) (mC (.int 0))) (mVar 3))))
    (mRaise "InvalidChip" ns_InvalidChip (mTup (mCons (mVar 0) (mCons (mVar 4) mNil))))
    mNext)
    (mAsg (gSubA (mVar 3) (mBin oIxA (mBin oIxA (mVar 1) (mVar 4)) (mC (.int 0)))) (mC (.bl true))))))
theorem w_check_rows (G : GK K mg) (Z : XK P w K mg) {fa_is_right : Addr} {l_is_right : List D → List Cell → Res D} (H_is_right : HeldM P w K mg base 50 fa_is_right 1 l_is_right) {m : List D → List Cell → Res D} (hm : ∀ ds S, ds.length = 4 → RefR S (m ds S) (b_check_rows fa_is_right l_is_right (startD 5 ds) S)) : FnM P w K mg base (50 + 1) "check_rows" 4 m := by
  refine FnM.def (ps := ["kind", "rows", "is_right", "names"]) G.f_check_rows sc_check_rows (fun f cdv A outer s H E tk hp hr => ?_) hm
  unfold b_check_rows
  exact (sb_cons (ss_if (st_not (st_tru (se_isi G.b_isinstance G.b_tuple (se_var 1))))
  (sb_one (ss_raise (x := "InvalidChip") rfl tk (x_InvalidChip Z) (hr.mono (by omega)) (se_tup (sa_cons (se_var 0) (sa_cons se_non sa_nil))) rfl rfl))
  sb_nil)
  (sb_one (ss_for hp rfl (si_range1 G.b_range (sa_cons (se_callB cd_lenA G.b_len (sa_cons (se_var 1) sa_nil)) sa_nil)) (sg_name 4 sc_check_rows.nd)
  (sb_cons (ss_if (st_sw (sw_or (st_not (st_tru (se_adr (i := 2) H_is_right (hr.mono (by omega)) tk (sa_cons (se_ixA hr.units (se_var 1) (se_var 4)) sa_nil) (len_cons len_nil)))) (sw_or1 (st_cmp (od_inA hr.units) (se_ixA hr.units (se_ixA hr.units (se_var 1) (se_var 4)) se_int) (se_var 3)))))
    (sb_one (ss_raise (x := "InvalidChip") rfl tk (x_InvalidChip Z) (hr.mono (by omega)) (se_tup (sa_cons (se_var 0) (sa_cons (se_var 4) sa_nil))) rfl rfl))
    sb_nil)
    (sb_one (ss_asg se_bl (sg_subA hr.units (se_var 3) (se_ixA hr.units (se_ixA hr.units (se_var 1) (se_var 4)) se_int))))))))
abbrev s_Chip_init : Stmt := clsInit (topS 28)
abbrev N_Chip_init : List Str := ["self", "name", "inputs", "registers", "wires", "outputs", "names"]
theorem sc_Chip_init : FnScope N_Chip_init ["self", "name", "inputs", "registers", "wires", "outputs"] (defScope s_Chip_init) := ⟨rfl, rfl, rfl, by decide +kernel, rfl, by decide +kernel, by decide +kernel⟩
@[irreducible] noncomputable def b_Chip_init (fa_is_input : Addr) (fa_is_register : Addr) (fa_is_named_term : Addr) : MS := (mSeq (mIf (mNot (mTru (mCall m_is_name (mCons (mVar 1) mNil))))
  (mRaise "InvalidChip" ns_InvalidChip (mTup (mCons (mC (.str (cs "chip"))) (mCons (mC (.int 0)) mNil))))
  mNext)
  (mSeq (mSet 6 mDict0)
  (mSeq (mExpr (mCall (m_check_rows okv isInput fa_is_input) (mCons (mC (.str (cs "in"))) (mCons (mVar 2) (mCons (mC (.adr fa_is_input)) (mCons (mVar 6) mNil))))))
  (mSeq (mExpr (mCall (m_check_rows (okd 40) isRegister fa_is_register) (mCons (mC (.str (cs "reg"))) (mCons (mVar 3) (mCons (mC (.adr fa_is_register)) (mCons (mVar 6) mNil))))))
  (mSeq (mExpr (mCall (m_check_rows (okd 40) isNamed fa_is_named_term) (mCons (mC (.str (cs "wire"))) (mCons (mVar 4) (mCons (mC (.adr fa_is_named_term)) (mCons (mVar 6) mNil))))))
  (mSeq (mExpr (mCall (m_check_rows (okd 40) isNamed fa_is_named_term) (mCons (mC (.str (cs "out"))) (mCons (mVar 5) (mCons (mC (.adr fa_is_named_term)) (mCons mDict0 mNil))))))
  (mSeq (mSetF ["Chip"] "name" (mVar 0) (mVar 1))
  (mSeq (mSetF ["Chip"] "inputs" (mVar 0) (mVar 2))
  (mSeq (mSetF ["Chip"] "registers" (mVar 0) (mVar 3))
  (mSeq (mSetF ["Chip"] "wires" (mVar 0) (mVar 4))
  (mSetF ["Chip"] "outputs" (mVar 0) (mVar 5))))))))))))
theorem w_Chip_init (G : GK K mg) (Z : XK P w K mg) (h_is_name : FnM P w K mg base 4 "is_name" 1 m_is_name) {fa_is_input : Addr} (A_is_input : mg "is_input" = some (.ref fa_is_input)) {fa_is_register : Addr} (A_is_register : mg "is_register" = some (.ref fa_is_register)) {fa_is_named_term : Addr} (A_is_named_term : mg "is_named_term" = some (.ref fa_is_named_term)) (h_check_rows_is_input : FnM P w K mg base 51 "check_rows" 4 (m_check_rows okv isInput fa_is_input)) (h_check_rows_is_register : FnM P w K mg base 51 "check_rows" 4 (m_check_rows (okd 40) isRegister fa_is_register)) (h_check_rows_is_named_term : FnM P w K mg base 51 "check_rows" 4 (m_check_rows (okd 40) isNamed fa_is_named_term)) {C fI : Addr} {fd : FuncData} (V : IsCls K mg "Chip" "Chip.__init__" s_Chip_init ["self", "name", "inputs", "registers", "wires", "outputs"] ["name", "inputs", "registers", "wires", "outputs"] C fI fd) {m : List D → List Cell → Res D} (hm : ∀ ds S, ds.length = 6 → RefR S (m ds S) (b_Chip_init fa_is_input fa_is_register fa_is_named_term (startD 7 ds) S)) : FnOk P w K mg base (L2.CX P w) (51 + 1) fI fd ["self", "name", "inputs", "registers", "wires", "outputs"] (spM mg K 6 m) := by
  refine fnOk_q (ps := ["self", "name", "inputs", "registers", "wires", "outputs"]) V.fn sc_Chip_init (fun f cdv A outer s H E hcdv tk hp hr => ?_) hm
  unfold b_Chip_init
  exact (sb_cons (ss_if (st_not (st_tru (se_fn h_is_name (hr.mono (by omega)) tk (sa_cons (se_var 1) sa_nil) (len_cons len_nil))))
  (sb_one (ss_raise (x := "InvalidChip") rfl tk (x_InvalidChip Z) (hr.mono (by omega)) (se_tup (sa_cons se_str (sa_cons se_int sa_nil))) rfl rfl))
  sb_nil)
  (sb_cons (ss_set 6 sc_Chip_init.nd se_dict0)
  (sb_cons (ss_expr (se_fn h_check_rows_is_input (hr.mono (by omega)) tk (sa_cons se_str (sa_cons (se_var 2) (sa_cons (se_globA A_is_input) (sa_cons (se_var 6) sa_nil)))) (len_cons (len_cons (len_cons (len_cons len_nil))))))
  (sb_cons (ss_expr (se_fn h_check_rows_is_register (hr.mono (by omega)) tk (sa_cons se_str (sa_cons (se_var 3) (sa_cons (se_globA A_is_register) (sa_cons (se_var 6) sa_nil)))) (len_cons (len_cons (len_cons (len_cons len_nil))))))
  (sb_cons (ss_expr (se_fn h_check_rows_is_named_term (hr.mono (by omega)) tk (sa_cons se_str (sa_cons (se_var 4) (sa_cons (se_globA A_is_named_term) (sa_cons (se_var 6) sa_nil)))) (len_cons (len_cons (len_cons (len_cons len_nil))))))
  (sb_cons (ss_expr (se_fn h_check_rows_is_named_term (hr.mono (by omega)) tk (sa_cons se_str (sa_cons (se_var 5) (sa_cons (se_globA A_is_named_term) (sa_cons se_dict0 sa_nil)))) (len_cons (len_cons (len_cons (len_cons len_nil))))))
  (sb_cons (ss_fld (cl := ["Chip"]) (f := "name") (V.fld (by decide)) (se_var 0) (se_var 1))
  (sb_cons (ss_fld (cl := ["Chip"]) (f := "inputs") (V.fld (by decide)) (se_var 0) (se_var 2))
  (sb_cons (ss_fld (cl := ["Chip"]) (f := "registers") (V.fld (by decide)) (se_var 0) (se_var 3))
  (sb_cons (ss_fld (cl := ["Chip"]) (f := "wires") (V.fld (by decide)) (se_var 0) (se_var 4))
  (sb_one (ss_fld (cl := ["Chip"]) (f := "outputs") (V.fld (by decide)) (se_var 0) (se_var 5)))))))))))))
abbrev s_is_literal : Stmt := topS 33
abbrev N_is_literal : List Str := ["value", "limit"]
theorem sc_is_literal : FnScope N_is_literal ["value", "limit"] (defScope s_is_literal) := ⟨rfl, rfl, rfl, by decide +kernel, rfl, by decide +kernel, by decide +kernel⟩
@[irreducible] noncomputable def b_is_literal : MS := (mRet (mAndV (mCall m_is_count (mCons (mVar 0) mNil)) (mBin oLt (mVar 0) (mVar 1))))
theorem w_is_literal (G : GK K mg) (h_is_count : FnM P w K mg base 1 "is_count" 1 m_is_count) {m : List D → List Cell → Res D} (hm : ∀ ds S, ds.length = 2 → RefR S (m ds S) (b_is_literal (startD 2 ds) S)) : FnM P w K mg base (1 + 1) "is_literal" 2 m := by
  refine FnM.def (ps := ["value", "limit"]) G.f_is_literal sc_is_literal (fun f cdv A outer s H E tk hp hr => ?_) hm
  unfold b_is_literal
  exact (sb_one (ss_ret (se_and (se_fn h_is_count (hr.mono (by omega)) tk (sa_cons (se_var 0) sa_nil) (len_cons len_nil)) (se_one (se_cmp od_lt (se_var 0) (se_var 1))))))
abbrev s_is_latch : Stmt := topS 34
abbrev N_is_latch : List Str := ["row", "limit"]
theorem sc_is_latch : FnScope N_is_latch ["row", "limit"] (defScope s_is_latch) := ⟨rfl, rfl, rfl, by decide +kernel, rfl, by decide +kernel, by decide +kernel⟩
@[irreducible] noncomputable def b_is_latch : MS := (mSeq (mIf (mOr (mNot (mTru (mIsi "tuple" (mVar 0)))) (mOr (mTst (mBin oNe (mB oLenA (mCons (mVar 0) mNil)) (mC (.int 3)))) (mNot (mTru (mIsi "str" (mBin oIxA (mVar 0) (mC (.int 0))))))))
  (mRet (mC (.bl false)))
  mNext)
  (mRet (mAndV (mCall m_is_count (mCons (mBin oIxA (mVar 0) (mC (.int 1))) mNil)) (mAndV (mBin oLt (mBin oIxA (mVar 0) (mC (.int 1))) (mC (.int 2))) (mCall m_is_literal (mCons (mBin oIxA (mVar 0) (mC (.int 2))) (mCons (mVar 1) mNil)))))))
theorem w_is_latch (G : GK K mg) (h_is_count : FnM P w K mg base 1 "is_count" 1 m_is_count) (h_is_literal : FnM P w K mg base 2 "is_literal" 2 m_is_literal) {m : List D → List Cell → Res D} (hm : ∀ ds S, ds.length = 2 → RefR S (m ds S) (b_is_latch (startD 2 ds) S)) : FnM P w K mg base (2 + 1) "is_latch" 2 m := by
  refine FnM.def (ps := ["row", "limit"]) G.f_is_latch sc_is_latch (fun f cdv A outer s H E tk hp hr => ?_) hm
  unfold b_is_latch
  exact (sb_cons (ss_if (st_sw (sw_or (st_not (st_tru (se_isi G.b_isinstance G.b_tuple (se_var 0)))) (sw_or (st_cmp (od_ne hr.units) (se_callB cd_lenA G.b_len (sa_cons (se_var 0) sa_nil)) se_int) (sw_or1 (st_not (st_tru (se_isi G.b_isinstance G.b_str (se_ixA hr.units (se_var 0) se_int))))))))
  (sb_one (ss_ret se_bl))
  sb_nil)
  (sb_one (ss_ret (se_and (se_fn h_is_count (hr.mono (by omega)) tk (sa_cons (se_ixA hr.units (se_var 0) se_int) sa_nil) (len_cons len_nil)) (se_and (se_cmp od_lt (se_ixA hr.units (se_var 0) se_int) se_int) (se_one (se_fn h_is_literal (hr.mono (by omega)) tk (sa_cons (se_ixA hr.units (se_var 0) se_int) (sa_cons (se_var 1) sa_nil)) (len_cons (len_cons len_nil)))))))))
abbrev s_is_and : Stmt := topS 35
abbrev N_is_and : List Str := ["row", "limit"]
theorem sc_is_and : FnScope N_is_and ["row", "limit"] (defScope s_is_and) := ⟨rfl, rfl, rfl, by decide +kernel, rfl, by decide +kernel, by decide +kernel⟩
@[irreducible] noncomputable def b_is_and : MS := (mRet (mAndV (mIsi "tuple" (mVar 0)) (mAndV (mBin oEq (mB oLenA (mCons (mVar 0) mNil)) (mC (.int 2))) (mAndV (mCall m_is_literal (mCons (mBin oIxA (mVar 0) (mC (.int 0))) (mCons (mVar 1) mNil))) (mCall m_is_literal (mCons (mBin oIxA (mVar 0) (mC (.int 1))) (mCons (mVar 1) mNil)))))))
theorem w_is_and (G : GK K mg) (h_is_literal : FnM P w K mg base 2 "is_literal" 2 m_is_literal) {m : List D → List Cell → Res D} (hm : ∀ ds S, ds.length = 2 → RefR S (m ds S) (b_is_and (startD 2 ds) S)) : FnM P w K mg base (2 + 1) "is_and" 2 m := by
  refine FnM.def (ps := ["row", "limit"]) G.f_is_and sc_is_and (fun f cdv A outer s H E tk hp hr => ?_) hm
  unfold b_is_and
  exact (sb_one (ss_ret (se_and (se_isi G.b_isinstance G.b_tuple (se_var 0)) (se_and (se_cmp (od_eq hr.units) (se_callB cd_lenA G.b_len (sa_cons (se_var 0) sa_nil)) se_int) (se_and (se_fn h_is_literal (hr.mono (by omega)) tk (sa_cons (se_ixA hr.units (se_var 0) se_int) (sa_cons (se_var 1) sa_nil)) (len_cons (len_cons len_nil))) (se_one (se_fn h_is_literal (hr.mono (by omega)) tk (sa_cons (se_ixA hr.units (se_var 0) se_int) (sa_cons (se_var 1) sa_nil)) (len_cons (len_cons len_nil)))))))))
abbrev s_is_output : Stmt := topS 36
abbrev N_is_output : List Str := ["row", "limit"]
theorem sc_is_output : FnScope N_is_output ["row", "limit"] (defScope s_is_output) := ⟨rfl, rfl, rfl, by decide +kernel, rfl, by decide +kernel, by decide +kernel⟩
@[irreducible] noncomputable def b_is_output : MS := (mRet (mAndV (mIsi "tuple" (mVar 0)) (mAndV (mBin oEq (mB oLenA (mCons (mVar 0) mNil)) (mC (.int 2))) (mAndV (mIsi "str" (mBin oIxA (mVar 0) (mC (.int 0)))) (mCall m_is_literal (mCons (mBin oIxA (mVar 0) (mC (.int 1))) (mCons (mVar 1) mNil)))))))
theorem w_is_output (G : GK K mg) (h_is_literal : FnM P w K mg base 2 "is_literal" 2 m_is_literal) {m : List D → List Cell → Res D} (hm : ∀ ds S, ds.length = 2 → RefR S (m ds S) (b_is_output (startD 2 ds) S)) : FnM P w K mg base (2 + 1) "is_output" 2 m := by
  refine FnM.def (ps := ["row", "limit"]) G.f_is_output sc_is_output (fun f cdv A outer s H E tk hp hr => ?_) hm
  unfold b_is_output
  exact (sb_one (ss_ret (se_and (se_isi G.b_isinstance G.b_tuple (se_var 0)) (se_and (se_cmp (od_eq hr.units) (se_callB cd_lenA G.b_len (sa_cons (se_var 0) sa_nil)) se_int) (se_and (se_isi G.b_isinstance G.b_str (se_ixA hr.units (se_var 0) se_int)) (se_one (se_fn h_is_literal (hr.mono (by omega)) tk (sa_cons (se_ixA hr.units (se_var 0) se_int) (sa_cons (se_var 1) sa_nil)) (len_cons (len_cons len_nil)))))))))
abbrev s_check_net_rows : Stmt := topS 32
abbrev N_check_net_rows : List Str := ["kind", "rows", "is_right", "k"]
theorem sc_check_net_rows : FnScope N_check_net_rows ["kind", "rows", "is_right"] (defScope s_check_net_rows) := ⟨rfl, rfl, rfl, by decide +kernel, rfl, by decide +kernel, by decide +kernel⟩
@[irreducible] noncomputable def b_check_net_rows (f c' : Addr) (q : Str) (lm : List D → List Cell → Res D) : MS := (mFor (mRng1 (mCons (mB oLenA (mCons (mVar 1) mNil)) mNil)) (gN 3)
  (mIf (mNot (mTru (mLam 2 f c' q lm (mCons (mBin oIxA (mVar 1) (mVar 3)) (mCons (mVar 3) mNil)))))
    (mRaise "InvalidNet" ns_InvalidNet (mTup (mCons (mVar 0) (mCons (mVar 3) mNil))))
    mNext))
theorem wb_check_net_rows (G : GK K mg) (Z : XK P w K mg) {k : Nat} (hk : 3 ≤ k) (f c' : Addr) (q : Str) (lm : List D → List Cell → Res D) (fa : Addr) (cdv : Value) (A : Around) (outer : List Env) (s : Shared) (H : Hp) (E : L2.XK) (tk : Takes (bodyX P w K mg base N_check_net_rows "check_net_rows" s_check_net_rows fa cdv A outer s H E) (fun cls d _ H' => E cls d H')) (hp : PassesOwn (model P w) (bodyX P w K mg base N_check_net_rows "check_net_rows" s_check_net_rows fa cdv A outer s H E).A (bodyX P w K mg base N_check_net_rows "check_net_rows" s_check_net_rows fa cdv A outer s H E).env (bodyX P w K mg base N_check_net_rows "check_net_rows" s_check_net_rows fa cdv A outer s H E).xe) (hr : Room (k + 1) (bodyX P w K mg base N_check_net_rows "check_net_rows" s_check_net_rows fa cdv A outer s H E).A) (act : Acts (bodyX P w K mg base N_check_net_rows "check_net_rows" s_check_net_rows fa cdv A outer s H E) 2 2 "is_right" f c' q lm) : SB (bodyX P w K mg base N_check_net_rows "check_net_rows" s_check_net_rows fa cdv A outer s H E) (fun cls d _ H' => E cls d H') (defBody s_check_net_rows) (b_check_net_rows f c' q lm) := by
  unfold b_check_net_rows
  exact (sb_one (ss_for hp rfl (si_range1 G.b_range (sa_cons (se_callB cd_lenA G.b_len (sa_cons (se_var 1) sa_nil)) sa_nil)) (sg_name 3 sc_check_net_rows.nd)
  (sb_one (ss_if (st_not (st_tru (act _ _ _ _ _ _ tk (sa_cons (se_ixA hr.units (se_var 1) (se_var 3)) (sa_cons (se_var 3) sa_nil)) (len_cons (len_cons len_nil)) rfl rfl)))
    (sb_one (ss_raise (x := "InvalidNet") rfl tk (x_InvalidNet Z) (hr.mono (by omega)) (se_tup (sa_cons (se_var 0) (sa_cons (se_var 3) sa_nil))) rfl rfl))
    sb_nil))))
abbrev s_Net_init : Stmt := clsInit (topS 31)
abbrev N_Net_init : List Str := ["self", "inputs", "latches", "ands", "outputs", "kind", "rows", "first", "limit"]
theorem sc_Net_init : FnScope N_Net_init ["self", "inputs", "latches", "ands", "outputs"] (defScope s_Net_init) := ⟨rfl, rfl, rfl, by decide +kernel, rfl, by decide +kernel, by decide +kernel⟩
@[irreducible] noncomputable def b_Net_init (P0 : Addr) : MS := (mSeq (mFor (mSeqI (mTup (mCons (mTup (mCons (mC (.str (cs "in"))) (mCons (mVar 1) mNil))) (mCons (mTup (mCons (mC (.str (cs "latch"))) (mCons (mVar 2) mNil))) (mCons (mTup (mCons (mC (.str (cs "and"))) (mCons (mVar 3) mNil))) (mCons (mTup (mCons (mC (.str (cs "out"))) (mCons (mVar 4) mNil))) mNil)))))) (gTupD 2 (gsCons (gN 5) (gsCons (gN 6) gsNil)))
  (mIf (mNot (mTru (mIsi "tuple" (mVar 6))))
    (mRaise "InvalidNet" ns_InvalidNet (mTup (mCons (mVar 5) (mCons (mC .non) mNil))))
    mNext))
  (mSeq (mSet 7 (mBin oAdd (mBin oAdd (mC (.int 1)) (mB oLenA (mCons (mVar 1) mNil))) (mB oLenA (mCons (mVar 2) mNil))))
  (mSeq (mSet 8 (mBin oMulL (mC (.int 2)) (mBin oAdd (mVar 7) (mB oLenA (mCons (mVar 3) mNil)))))
  (mSeq (mExpr (mLam2 P0 q_Net 0 m_check_net_rows (mIsi "str" (mVar 9)) (mC (.str (cs "in"))) (mVar 1)))
  (mSeq (mExpr (mLam2 P0 q_Net 0 m_check_net_rows (mCall m_is_latch (mCons (mVar 9) (mCons (mVar 8) mNil))) (mC (.str (cs "latch"))) (mVar 2)))
  (mSeq (mExpr (mLam2 P0 q_Net 0 m_check_net_rows (mCall m_is_and (mCons (mVar 9) (mCons (mBin oMulL (mC (.int 2)) (mBin oAdd (mVar 7) (mVar 10))) mNil))) (mC (.str (cs "and"))) (mVar 3)))
  (mSeq (mExpr (mLam2 P0 q_Net 0 m_check_net_rows (mCall m_is_output (mCons (mVar 9) (mCons (mVar 8) mNil))) (mC (.str (cs "out"))) (mVar 4)))
  (mSeq (mSetF ["Net"] "inputs" (mVar 0) (mVar 1))
  (mSeq (mSetF ["Net"] "latches" (mVar 0) (mVar 2))
  (mSeq (mSetF ["Net"] "ands" (mVar 0) (mVar 3))
  (mSetF ["Net"] "outputs" (mVar 0) (mVar 4))))))))))))
theorem w_Net_init (G : GK K mg) (Z : XK P w K mg) (h_is_and : FnM P w K mg base 3 "is_and" 2 m_is_and) (h_is_latch : FnM P w K mg base 3 "is_latch" 2 m_is_latch) (h_is_output : FnM P w K mg base 3 "is_output" 2 m_is_output) (hm_check_net_rows : ∀ f c' q lm ds S, ds.length = 2 → RefR S (m_check_net_rows lm ds S) (b_check_net_rows f c' q lm (startD 4 (ds ++ [D.lam f c' q])) S)) {C fI : Addr} {fd : FuncData} (V : IsCls K mg "Net" "Net.__init__" s_Net_init ["self", "inputs", "latches", "ands", "outputs"] ["inputs", "latches", "ands", "outputs"] C fI fd) {c : Addr} (TB : LamX.TabB base mg c P0) (hcd : fd.code = .ref c) {m : List D → List Cell → Res D} (hm : ∀ ds S, ds.length = 5 → RefR S (m ds S) ((b_Net_init P0) (startD 9 ds) S)) : FnOk P w K mg base (L2.CX P w) (8 + 1) fI fd ["self", "inputs", "latches", "ands", "outputs"] (spM mg K 5 m) := by
  refine fnOk_q (ps := ["self", "inputs", "latches", "ands", "outputs"]) V.fn sc_Net_init (fun f cdv A outer s H E hcdv tk hp hr => ?_) hm
  unfold b_Net_init
  exact (sb_cons (ss_for hp rfl (si_seq (se_tup (sa_cons (se_tup (sa_cons se_str (sa_cons (se_var 1) sa_nil))) (sa_cons (se_tup (sa_cons se_str (sa_cons (se_var 2) sa_nil))) (sa_cons (se_tup (sa_cons se_str (sa_cons (se_var 3) sa_nil))) (sa_cons (se_tup (sa_cons se_str (sa_cons (se_var 4) sa_nil))) sa_nil)))))) (sg_tup rfl (sgs_cons (sg_name 5 sc_Net_init.nd) (sgs_cons (sg_name 6 sc_Net_init.nd) sgs_nil (gN_noex 6) gsNil_noex) (gN_noex 5) (gsCons_noex (gN_noex 6) gsNil_noex)))
  (sb_one (ss_if (st_not (st_tru (se_isi G.b_isinstance G.b_tuple (se_var 6))))
    (sb_one (ss_raise (x := "InvalidNet") rfl tk (x_InvalidNet Z) (hr.mono (by omega)) (se_tup (sa_cons (se_var 5) (sa_cons se_non sa_nil))) rfl rfl))
    sb_nil)))
  (sb_cons (ss_set 7 sc_Net_init.nd (se_bin od_add (se_bin od_add se_int (se_callB cd_lenA G.b_len (sa_cons (se_var 1) sa_nil))) (se_callB cd_lenA G.b_len (sa_cons (se_var 2) sa_nil))))
  (sb_cons (ss_set 8 sc_Net_init.nd (se_bin od_mulL se_int (se_bin od_add (se_var 7) (se_callB cd_lenA G.b_len (sa_cons (se_var 3) sa_nil)))))
  (sb_cons (ss_expr (se_lam2 (k := 6) (j := 0) (ps := ["row", "k"]) G.f_check_net_rows sc_check_net_rows rfl (.inl rfl) (fun f c' q lm fa cdv A outer s H E tk hp hr act => wb_check_net_rows G Z (by omega) f c' q lm fa cdv A outer s H E tk hp hr act) hm_check_net_rows TB (hcdv.trans hcd) (hr.mono (by omega)) tk (lamP_by (N := N_Net_init) (sc := defScope s_Net_init) (by decide +kernel)) rfl (fun _ _ _ _ _ us hl => match us, hl with | [_, _], _ => rfl) (fun f c' A outer s H E tk hr => (se_isi G.b_isinstance G.b_str (se_var 9))) se_str (se_var 1)))
  (sb_cons (ss_expr (se_lam2 (k := 6) (j := 0) (ps := ["row", "k"]) G.f_check_net_rows sc_check_net_rows rfl (.inl rfl) (fun f c' q lm fa cdv A outer s H E tk hp hr act => wb_check_net_rows G Z (by omega) f c' q lm fa cdv A outer s H E tk hp hr act) hm_check_net_rows TB (hcdv.trans hcd) (hr.mono (by omega)) tk (lamP_by (N := N_Net_init) (sc := defScope s_Net_init) (by decide +kernel)) rfl (fun _ _ _ _ _ us hl => match us, hl with | [_, _], _ => rfl) (fun f c' A outer s H E tk hr => (se_fn h_is_latch (hr.mono (by omega)) tk (sa_cons (se_var 9) (sa_cons (se_var 8) sa_nil)) (len_cons (len_cons len_nil)))) se_str (se_var 2)))
  (sb_cons (ss_expr (se_lam2 (k := 6) (j := 0) (ps := ["row", "k"]) G.f_check_net_rows sc_check_net_rows rfl (.inl rfl) (fun f c' q lm fa cdv A outer s H E tk hp hr act => wb_check_net_rows G Z (by omega) f c' q lm fa cdv A outer s H E tk hp hr act) hm_check_net_rows TB (hcdv.trans hcd) (hr.mono (by omega)) tk (lamP_by (N := N_Net_init) (sc := defScope s_Net_init) (by decide +kernel)) rfl (fun _ _ _ _ _ us hl => match us, hl with | [_, _], _ => rfl) (fun f c' A outer s H E tk hr => (se_fn h_is_and (hr.mono (by omega)) tk (sa_cons (se_var 9) (sa_cons (se_bin od_mulL se_int (se_bin od_add (se_var 7) (se_var 10))) sa_nil)) (len_cons (len_cons len_nil)))) se_str (se_var 3)))
  (sb_cons (ss_expr (se_lam2 (k := 6) (j := 0) (ps := ["row", "k"]) G.f_check_net_rows sc_check_net_rows rfl (.inl rfl) (fun f c' q lm fa cdv A outer s H E tk hp hr act => wb_check_net_rows G Z (by omega) f c' q lm fa cdv A outer s H E tk hp hr act) hm_check_net_rows TB (hcdv.trans hcd) (hr.mono (by omega)) tk (lamP_by (N := N_Net_init) (sc := defScope s_Net_init) (by decide +kernel)) rfl (fun _ _ _ _ _ us hl => match us, hl with | [_, _], _ => rfl) (fun f c' A outer s H E tk hr => (se_fn h_is_output (hr.mono (by omega)) tk (sa_cons (se_var 9) (sa_cons (se_var 8) sa_nil)) (len_cons (len_cons len_nil)))) se_str (se_var 4)))
  (sb_cons (ss_fld (cl := ["Net"]) (f := "inputs") (V.fld (by decide)) (se_var 0) (se_var 1))
  (sb_cons (ss_fld (cl := ["Net"]) (f := "latches") (V.fld (by decide)) (se_var 0) (se_var 2))
  (sb_cons (ss_fld (cl := ["Net"]) (f := "ands") (V.fld (by decide)) (se_var 0) (se_var 3))
  (sb_one (ss_fld (cl := ["Net"]) (f := "outputs") (V.fld (by decide)) (se_var 0) (se_var 4)))))))))))))
abbrev s__law_start : Stmt := topS 38
abbrev N__law_start : List Str := ["script"]
theorem sc__law_start : FnScope N__law_start ["script"] (defScope s__law_start) := ⟨rfl, rfl, rfl, by decide +kernel, rfl, by decide +kernel, by decide +kernel⟩
@[irreducible] noncomputable def b__law_start : MS := (mRet (mLst (mCons (mVar 0) (mCons (mC (.int 0)) (mCons (mC (.int 0)) (mCons (mC (.int 7)) mNil))))))
theorem w__law_start (G : GK K mg) {m : List D → List Cell → Res D} (hm : ∀ ds S, ds.length = 1 → RefR S (m ds S) (b__law_start (startD 1 ds) S)) : FnM P w K mg base (0 + 1) "_law_start" 1 m := by
  refine FnM.def (ps := ["script"]) G.f__law_start sc__law_start (fun f cdv A outer s H E tk hp hr => ?_) hm
  unfold b__law_start
  exact (sb_one (ss_ret (se_lst (sa_cons (se_var 0) (sa_cons se_int (sa_cons se_int (sa_cons se_int sa_nil)))))))
abbrev s__law_pick : Stmt := topS 39
abbrev N__law_pick : List Str := ["state", "limit", "cell", "drawn"]
theorem sc__law_pick : FnScope N__law_pick ["state", "limit"] (defScope s__law_pick) := ⟨rfl, rfl, rfl, by decide +kernel, rfl, by decide +kernel, by decide +kernel⟩
@[irreducible] noncomputable def b__law_pick : MS := (mSeq (mIf (mAnd (mTst (mBin oEq (mBin oIxA (mVar 0) (mC (.int 2))) (mC (.int 0)))) (mTst (mBin oLt (mBin oIxA (mVar 0) (mC (.int 1))) (mB oLenA (mCons (mBin oIxA (mVar 0) (mC (.int 0))) mNil)))))
  (mSeq (mSet 2 (mB oAbs (mCons (mBin oIxA (mBin oIxA (mVar 0) (mC (.int 0))) (mBin oIxA (mVar 0) (mC (.int 1)))) mNil)))
    (mSeq (mAsg (gSubA (mVar 0) (mC (.int 1))) (mBin oAdd (mBin oIxA (mVar 0) (mC (.int 1))) (mC (.int 1))))
    (mIf (mTst (mBin oGe (mVar 2) (mBin oPow (mC (.int 10)) (mC (.int 18)))))
    (mAsg (gSubA (mVar 0) (mC (.int 2))) (mVar 2))
    (mAsg (gSubA (mVar 0) (mC (.int 3))) (mBin oAdd (mBin oMod (mB oIntS (mCons (mBin oAdd (mBin oMulL (mBin oIxA (mVar 0) (mC (.int 3))) (mC (.int 48271))) (mVar 2)) mNil)) (mC (.int 2147483646))) (mC (.int 1)))))))
  mNext)
  (mSeq (mIf (mTst (mBin oGt (mBin oIxA (mVar 0) (mC (.int 2))) (mC (.int 0))))
  (mSeq (mSet 3 (mBin oMod (mB oIntS (mCons (mBin oIxA (mVar 0) (mC (.int 2))) mNil)) (mVar 1)))
    (mSeq (mAsg (gSubA (mVar 0) (mC (.int 2))) (mBin oDiv (mBin oIxA (mVar 0) (mC (.int 2))) (mVar 1)))
    (mRet (mVar 3))))
  mNext)
  (mSeq (mAsg (gSubA (mVar 0) (mC (.int 3))) (mBin oMod (mB oIntS (mCons (mBin oMulL (mBin oIxA (mVar 0) (mC (.int 3))) (mC (.int 48271))) mNil)) (mC (.int 2147483647))))
  (mRet (mBin oMod (mB oIntS (mCons (mBin oAdd (mBin oDiv (mBin oIxA (mVar 0) (mC (.int 3))) (mC (.int 5))) (mBin oMod (mB oIntS (mCons (mBin oMulL (mBin oIxA (mVar 0) (mC (.int 3))) (mBin oIxA (mVar 0) (mC (.int 3)))) mNil)) (mC (.int 2147483629)))) mNil)) (mVar 1))))))
theorem w__law_pick (G : GK K mg) {m : List D → List Cell → Res D} (hm : ∀ ds S, ds.length = 2 → RefR S (m ds S) (b__law_pick (startD 4 ds) S)) : FnM P w K mg base (0 + 1) "_law_pick" 2 m := by
  refine FnM.def (ps := ["state", "limit"]) G.f__law_pick sc__law_pick (fun f cdv A outer s H E tk hp hr => ?_) hm
  unfold b__law_pick
  exact (sb_cons (ss_if (st_sw (sw_and (st_cmp (od_eq hr.units) (se_ixA hr.units (se_var 0) se_int) se_int) (sw_and1 (st_cmp od_lt (se_ixA hr.units (se_var 0) se_int) (se_callB cd_lenA G.b_len (sa_cons (se_ixA hr.units (se_var 0) se_int) sa_nil))))))
  (sb_cons (ss_set 2 sc__law_pick.nd (se_callB cd_abs G.b_abs (sa_cons (se_ixA hr.units (se_ixA hr.units (se_var 0) se_int) (se_ixA hr.units (se_var 0) se_int)) sa_nil)))
    (sb_cons (ss_asg (se_bin od_add (se_ixA hr.units (se_var 0) se_int) se_int) (sg_subA hr.units (se_var 0) se_int))
    (sb_one (ss_if (st_cmp od_ge (se_var 2) (se_bin od_pow se_int se_int))
    (sb_one (ss_asg (se_var 2) (sg_subA hr.units (se_var 0) se_int)))
    (sb_one (ss_asg (se_bin od_add (se_bin od_mod (se_callTy cd_intS G.b_int (sa_cons (se_bin od_add (se_bin od_mulL (se_ixA hr.units (se_var 0) se_int) se_int) (se_var 2)) sa_nil)) se_int) se_int) (sg_subA hr.units (se_var 0) se_int)))))))
  sb_nil)
  (sb_cons (ss_if (st_cmp od_gt (se_ixA hr.units (se_var 0) se_int) se_int)
  (sb_cons (ss_set 3 sc__law_pick.nd (se_bin od_mod (se_callTy cd_intS G.b_int (sa_cons (se_ixA hr.units (se_var 0) se_int) sa_nil)) (se_var 1)))
    (sb_cons (ss_asg (se_bin od_div (se_ixA hr.units (se_var 0) se_int) (se_var 1)) (sg_subA hr.units (se_var 0) se_int))
    (sb_one (ss_ret (se_var 3)))))
  sb_nil)
  (sb_cons (ss_asg (se_bin od_mod (se_callTy cd_intS G.b_int (sa_cons (se_bin od_mulL (se_ixA hr.units (se_var 0) se_int) se_int) sa_nil)) se_int) (sg_subA hr.units (se_var 0) se_int))
  (sb_one (ss_ret (se_bin od_mod (se_callTy cd_intS G.b_int (sa_cons (se_bin od_add (se_bin od_div (se_ixA hr.units (se_var 0) se_int) se_int) (se_bin od_mod (se_callTy cd_intS G.b_int (sa_cons (se_bin od_mulL (se_ixA hr.units (se_var 0) se_int) (se_ixA hr.units (se_var 0) se_int)) sa_nil)) se_int)) sa_nil)) (se_var 1)))))))
abbrev s__law_same : Stmt := topS 40
abbrev N__law_same : List Str := ["told", "due", "k"]
theorem sc__law_same : FnScope N__law_same ["told", "due"] (defScope s__law_same) := ⟨rfl, rfl, rfl, by decide +kernel, rfl, by decide +kernel, by decide +kernel⟩
@[irreducible] noncomputable def b__law_same (r__law_same : List D → List Cell → Res D) : MS := (mSeq (mIf (mTst (mBin oIsN (mVar 1) (mC .non)))
  (mRet (mBin oIsN (mVar 0) (mC .non)))
  mNext)
  (mSeq (mIf (mTru (mIsi "bool" (mVar 1)))
  (mRet (mAndV (mIsi "bool" (mVar 0)) (mBin oEq (mVar 0) (mVar 1))))
  mNext)
  (mSeq (mIf (mTru (mIsi "int" (mVar 1)))
  (mRet (mAndV (mIsi "int" (mVar 0)) (mAndV (mNotV (mIsi "bool" (mVar 0))) (mBin oEq (mVar 0) (mVar 1)))))
  mNext)
  (mSeq (mIf (mTru (mIsi "str" (mVar 1)))
  (mRet (mAndV (mIsi "str" (mVar 0)) (mBin oEq (mVar 0) (mVar 1))))
  mNext)
  (mSeq (mIf (mOr (mAnd (mTru (mIsi "list" (mVar 1))) (mNot (mTru (mIsi "list" (mVar 0))))) (mAnd (mTru (mIsi "tuple" (mVar 1))) (mNot (mTru (mIsi "tuple" (mVar 0))))))
  (mRet (mC (.bl false)))
  mNext)
  (mRet (mAndV (mBin oEq (mB oLenA (mCons (mVar 0) mNil)) (mB oLenA (mCons (mVar 1) mNil))) (mBin oEq (mFresh (mLc (mRng1 (mCons (mB oLenA (mCons (mVar 1) mNil)) mNil)) [2] (gN 2) (mNot (mTru (mCall r__law_same (mCons (mBin oIxA (mVar 0) (mVar 2)) (mCons (mBin oIxA (mVar 1) (mVar 2)) mNil))))) (mC (.int 1)))) (mLst mNil)))))))))
theorem w__law_same (G : GK K mg) {k : Nat} (hk : 0 ≤ k) {r__law_same : List D → List Cell → Res D} (h_rec__law_same : FnM P w K mg base k "_law_same" 2 r__law_same) {m : List D → List Cell → Res D} (hm : ∀ ds S, ds.length = 2 → RefR S (m ds S) (b__law_same r__law_same (startD 3 ds) S)) : FnM P w K mg base (k + 1) "_law_same" 2 m := by
  refine FnM.def (ps := ["told", "due"]) G.f__law_same sc__law_same (fun f cdv A outer s H E tk hp hr => ?_) hm
  unfold b__law_same
  exact (sb_cons (ss_if (st_cmp od_isN (se_var 1) se_non)
  (sb_one (ss_ret (se_cmp od_isN (se_var 0) se_non)))
  sb_nil)
  (sb_cons (ss_if (st_tru (se_isi G.b_isinstance G.b_bool (se_var 1)))
  (sb_one (ss_ret (se_and (se_isi G.b_isinstance G.b_bool (se_var 0)) (se_one (se_cmp (od_eq hr.units) (se_var 0) (se_var 1))))))
  sb_nil)
  (sb_cons (ss_if (st_tru (se_isi G.b_isinstance G.b_int (se_var 1)))
  (sb_one (ss_ret (se_and (se_isi G.b_isinstance G.b_int (se_var 0)) (se_and (se_not (se_isi G.b_isinstance G.b_bool (se_var 0))) (se_one (se_cmp (od_eq hr.units) (se_var 0) (se_var 1)))))))
  sb_nil)
  (sb_cons (ss_if (st_tru (se_isi G.b_isinstance G.b_str (se_var 1)))
  (sb_one (ss_ret (se_and (se_isi G.b_isinstance G.b_str (se_var 0)) (se_one (se_cmp (od_eq hr.units) (se_var 0) (se_var 1))))))
  sb_nil)
  (sb_cons (ss_if (st_sw (sw_or (st_sw (sw_and (st_tru (se_isi G.b_isinstance G.b_list (se_var 1))) (sw_and1 (st_not (st_tru (se_isi G.b_isinstance G.b_list (se_var 0))))))) (sw_or1 (st_sw (sw_and (st_tru (se_isi G.b_isinstance G.b_tuple (se_var 1))) (sw_and1 (st_not (st_tru (se_isi G.b_isinstance G.b_tuple (se_var 0))))))))))
  (sb_one (ss_ret se_bl))
  sb_nil)
  (sb_one (ss_ret (se_and (se_cmp (od_eq hr.units) (se_callB cd_lenA G.b_len (sa_cons (se_var 0) sa_nil)) (se_callB cd_lenA G.b_len (sa_cons (se_var 1) sa_nil))) (se_one (se_cmp (od_eq hr.units) (se_fresh (sl_lc [(("k" : Str), 2)] rfl sc__law_same.nd (si_range1 G.b_range (sa_cons (se_callB cd_lenA G.b_len (sa_cons (se_var 1) sa_nil)) sa_nil)) (blkOk_by (N := N__law_same) (sc := defScope s__law_same) (by decide +kernel)) (fun _ _ _ _ _ => (sgw_name 2 sc__law_same.nd)) (fun _ _ _ _ _ => (sts_one (st_not (st_tru (se_fn h_rec__law_same (hr.mono (by omega)) takes0 (sa_cons (se_ixA hr.units (se_var 0) (se_var 2)) (sa_cons (se_ixA hr.units (se_var 1) (se_var 2)) sa_nil)) (len_cons (len_cons len_nil))))))) (fun _ _ _ _ _ => se_int))) (se_lst sa_nil)))))))))))
abbrev s__law_raise : Stmt := topS 41
abbrev N__law_raise : List Str := ["k", "place"]
theorem sc__law_raise : FnScope N__law_raise ["k", "place"] (defScope s__law_raise) := ⟨rfl, rfl, rfl, by decide +kernel, rfl, by decide +kernel, by decide +kernel⟩
@[irreducible] noncomputable def b__law_raise : MS := (mSeq (mIf (mTst (mBin oEq (mVar 0) (mC (.int 0))))
  (mRaise "InvalidChip" ns_InvalidChip (mVar 1))
  mNext)
  (mSeq (mIf (mTst (mBin oEq (mVar 0) (mC (.int 1))))
  (mRaise "InvalidGrid" ns_InvalidGrid (mVar 1))
  mNext)
  (mSeq (mIf (mTst (mBin oEq (mVar 0) (mC (.int 2))))
  (mRaise "InvalidLibrary" ns_InvalidLibrary (mVar 1))
  mNext)
  (mSeq (mIf (mTst (mBin oEq (mVar 0) (mC (.int 3))))
  (mRaise "InvalidLog" ns_InvalidLog (mVar 1))
  mNext)
  (mSeq (mIf (mTst (mBin oEq (mVar 0) (mC (.int 4))))
  (mRaise "InvalidMade" ns_InvalidMade (mVar 1))
  mNext)
  (mSeq (mIf (mTst (mBin oEq (mVar 0) (mC (.int 5))))
  (mRaise "InvalidNet" ns_InvalidNet (mVar 1))
  mNext)
  (mSeq (mIf (mTst (mBin oEq (mVar 0) (mC (.int 6))))
  (mRaise "InvalidTerm" ns_InvalidTerm (mVar 1))
  mNext)
  (mSeq (mIf (mTst (mBin oEq (mVar 0) (mC (.int 7))))
  (mRaise "InvalidText" ns_InvalidText (mVar 1))
  mNext)
  (mSeq (mIf (mTst (mBin oEq (mVar 0) (mC (.int 8))))
  (mRaise "TooLarge" ns_TooLarge (mVar 1))
  mNext)
  (mIf (mTst (mBin oEq (mVar 0) (mC (.int 9))))
  (mRaise "ChiptrueError" ns_ChiptrueError (mVar 1))
  mNext))))))))))
theorem w__law_raise (G : GK K mg) (Z : XK P w K mg) {m : List D → List Cell → Res D} (hm : ∀ ds S, ds.length = 2 → RefR S (m ds S) (b__law_raise (startD 2 ds) S)) : FnM P w K mg base (3 + 1) "_law_raise" 2 m := by
  refine FnM.def (ps := ["k", "place"]) G.f__law_raise sc__law_raise (fun f cdv A outer s H E tk hp hr => ?_) hm
  unfold b__law_raise
  exact (sb_cons (ss_if (st_cmp (od_eq hr.units) (se_var 0) se_int)
  (sb_one (ss_raise (x := "InvalidChip") rfl tk (x_InvalidChip Z) (hr.mono (by omega)) (se_var 1) rfl rfl))
  sb_nil)
  (sb_cons (ss_if (st_cmp (od_eq hr.units) (se_var 0) se_int)
  (sb_one (ss_raise (x := "InvalidGrid") rfl tk (x_InvalidGrid Z) (hr.mono (by omega)) (se_var 1) rfl rfl))
  sb_nil)
  (sb_cons (ss_if (st_cmp (od_eq hr.units) (se_var 0) se_int)
  (sb_one (ss_raise (x := "InvalidLibrary") rfl tk (x_InvalidLibrary Z) (hr.mono (by omega)) (se_var 1) rfl rfl))
  sb_nil)
  (sb_cons (ss_if (st_cmp (od_eq hr.units) (se_var 0) se_int)
  (sb_one (ss_raise (x := "InvalidLog") rfl tk (x_InvalidLog Z) (hr.mono (by omega)) (se_var 1) rfl rfl))
  sb_nil)
  (sb_cons (ss_if (st_cmp (od_eq hr.units) (se_var 0) se_int)
  (sb_one (ss_raise (x := "InvalidMade") rfl tk (x_InvalidMade Z) (hr.mono (by omega)) (se_var 1) rfl rfl))
  sb_nil)
  (sb_cons (ss_if (st_cmp (od_eq hr.units) (se_var 0) se_int)
  (sb_one (ss_raise (x := "InvalidNet") rfl tk (x_InvalidNet Z) (hr.mono (by omega)) (se_var 1) rfl rfl))
  sb_nil)
  (sb_cons (ss_if (st_cmp (od_eq hr.units) (se_var 0) se_int)
  (sb_one (ss_raise (x := "InvalidTerm") rfl tk (x_InvalidTerm Z) (hr.mono (by omega)) (se_var 1) rfl rfl))
  sb_nil)
  (sb_cons (ss_if (st_cmp (od_eq hr.units) (se_var 0) se_int)
  (sb_one (ss_raise (x := "InvalidText") rfl tk (x_InvalidText Z) (hr.mono (by omega)) (se_var 1) rfl rfl))
  sb_nil)
  (sb_cons (ss_if (st_cmp (od_eq hr.units) (se_var 0) se_int)
  (sb_one (ss_raise (x := "TooLarge") rfl tk (x_TooLarge Z) (hr.mono (by omega)) (se_var 1) rfl rfl))
  sb_nil)
  (sb_one (ss_if (st_cmp (od_eq hr.units) (se_var 0) se_int)
  (sb_one (ss_raise (x := "ChiptrueError") rfl tk (x_ChiptrueError Z) (hr.mono (by omega)) (se_var 1) rfl rfl))
  sb_nil)))))))))))
abbrev s__law_forwards : Stmt := topS 42
abbrev N__law_forwards : List Str := ["k", "place"]
theorem sc__law_forwards : FnScope N__law_forwards ["k", "place"] (defScope s__law_forwards) := ⟨rfl, rfl, rfl, by decide +kernel, rfl, by decide +kernel, by decide +kernel⟩
@[irreducible] noncomputable def b__law_forwards : MS := (mTry tabX (mExpr (mCall m__law_raise (mCons (mVar 0) (mCons (mVar 1) mNil)))) [("InvalidChip", none, fun _ => (mRet (mC (.str (cs "InvalidChip"))))), ("InvalidGrid", none, fun _ => (mRet (mC (.str (cs "InvalidGrid"))))), ("InvalidLibrary", none, fun _ => (mRet (mC (.str (cs "InvalidLibrary"))))), ("InvalidLog", none, fun _ => (mRet (mC (.str (cs "InvalidLog"))))), ("InvalidMade", none, fun _ => (mRet (mC (.str (cs "InvalidMade"))))), ("InvalidNet", none, fun _ => (mRet (mC (.str (cs "InvalidNet"))))), ("InvalidTerm", none, fun _ => (mRet (mC (.str (cs "InvalidTerm"))))), ("InvalidText", none, fun _ => (mRet (mC (.str (cs "InvalidText"))))), ("TooLarge", none, fun _ => (mRet (mC (.str (cs "TooLarge"))))), ("ChiptrueError", none, fun _ => (mRet (mC (.str (cs "ChiptrueError")))))])
theorem w__law_forwards (G : GK K mg) (Z : XK P w K mg) (h__law_raise : FnM P w K mg base 4 "_law_raise" 2 m__law_raise) {m : List D → List Cell → Res D} (hm : ∀ ds S, ds.length = 2 → RefR S (m ds S) (b__law_forwards (startD 2 ds) S)) : FnM P w K mg base (4 + 1) "_law_forwards" 2 m := by
  refine FnM.def (ps := ["k", "place"]) G.f__law_forwards sc__law_forwards (fun f cdv A outer s H E tk hp hr => ?_) hm
  unfold b__law_forwards
  exact (sb_one (ss_tryE (tab := tabX) rfl rfl sc__law_forwards.nd tk (fun _ pn xe tk hp => (sb_one (ss_expr (se_fn h__law_raise (hr.mono (by omega)) tk (sa_cons (se_var 0) (sa_cons (se_var 1) sa_nil)) (len_cons (len_cons len_nil)))))) (hsO (n := "InvalidChip") (k_InvalidChip Z) (fun _ _ _ _ _ _ _ => hd_plain (sb_one (ss_ret se_str))) (hsO (n := "InvalidGrid") (k_InvalidGrid Z) (fun _ _ _ _ _ _ _ => hd_plain (sb_one (ss_ret se_str))) (hsO (n := "InvalidLibrary") (k_InvalidLibrary Z) (fun _ _ _ _ _ _ _ => hd_plain (sb_one (ss_ret se_str))) (hsO (n := "InvalidLog") (k_InvalidLog Z) (fun _ _ _ _ _ _ _ => hd_plain (sb_one (ss_ret se_str))) (hsO (n := "InvalidMade") (k_InvalidMade Z) (fun _ _ _ _ _ _ _ => hd_plain (sb_one (ss_ret se_str))) (hsO (n := "InvalidNet") (k_InvalidNet Z) (fun _ _ _ _ _ _ _ => hd_plain (sb_one (ss_ret se_str))) (hsO (n := "InvalidTerm") (k_InvalidTerm Z) (fun _ _ _ _ _ _ _ => hd_plain (sb_one (ss_ret se_str))) (hsO (n := "InvalidText") (k_InvalidText Z) (fun _ _ _ _ _ _ _ => hd_plain (sb_one (ss_ret se_str))) (hsO (n := "TooLarge") (k_TooLarge Z) (fun _ _ _ _ _ _ _ => hd_plain (sb_one (ss_ret se_str))) (hsO (n := "ChiptrueError") (k_ChiptrueError Z) (fun _ _ _ _ _ _ _ => hd_plain (sb_one (ss_ret se_str))) hs0))))))))))))
abbrev s__law_backwards : Stmt := topS 43
abbrev N__law_backwards : List Str := ["k", "place"]
theorem sc__law_backwards : FnScope N__law_backwards ["k", "place"] (defScope s__law_backwards) := ⟨rfl, rfl, rfl, by decide +kernel, rfl, by decide +kernel, by decide +kernel⟩
@[irreducible] noncomputable def b__law_backwards : MS := (mTry tabX (mExpr (mCall m__law_raise (mCons (mVar 0) (mCons (mVar 1) mNil)))) [("TooLarge", none, fun _ => (mRet (mC (.str (cs "TooLarge"))))), ("InvalidText", none, fun _ => (mRet (mC (.str (cs "InvalidText"))))), ("InvalidTerm", none, fun _ => (mRet (mC (.str (cs "InvalidTerm"))))), ("InvalidNet", none, fun _ => (mRet (mC (.str (cs "InvalidNet"))))), ("InvalidMade", none, fun _ => (mRet (mC (.str (cs "InvalidMade"))))), ("InvalidLog", none, fun _ => (mRet (mC (.str (cs "InvalidLog"))))), ("InvalidLibrary", none, fun _ => (mRet (mC (.str (cs "InvalidLibrary"))))), ("InvalidGrid", none, fun _ => (mRet (mC (.str (cs "InvalidGrid"))))), ("InvalidChip", none, fun _ => (mRet (mC (.str (cs "InvalidChip"))))), ("ChiptrueError", none, fun _ => (mRet (mC (.str (cs "ChiptrueError")))))])
theorem w__law_backwards (G : GK K mg) (Z : XK P w K mg) (h__law_raise : FnM P w K mg base 4 "_law_raise" 2 m__law_raise) {m : List D → List Cell → Res D} (hm : ∀ ds S, ds.length = 2 → RefR S (m ds S) (b__law_backwards (startD 2 ds) S)) : FnM P w K mg base (4 + 1) "_law_backwards" 2 m := by
  refine FnM.def (ps := ["k", "place"]) G.f__law_backwards sc__law_backwards (fun f cdv A outer s H E tk hp hr => ?_) hm
  unfold b__law_backwards
  exact (sb_one (ss_tryE (tab := tabX) rfl rfl sc__law_backwards.nd tk (fun _ pn xe tk hp => (sb_one (ss_expr (se_fn h__law_raise (hr.mono (by omega)) tk (sa_cons (se_var 0) (sa_cons (se_var 1) sa_nil)) (len_cons (len_cons len_nil)))))) (hsO (n := "TooLarge") (k_TooLarge Z) (fun _ _ _ _ _ _ _ => hd_plain (sb_one (ss_ret se_str))) (hsO (n := "InvalidText") (k_InvalidText Z) (fun _ _ _ _ _ _ _ => hd_plain (sb_one (ss_ret se_str))) (hsO (n := "InvalidTerm") (k_InvalidTerm Z) (fun _ _ _ _ _ _ _ => hd_plain (sb_one (ss_ret se_str))) (hsO (n := "InvalidNet") (k_InvalidNet Z) (fun _ _ _ _ _ _ _ => hd_plain (sb_one (ss_ret se_str))) (hsO (n := "InvalidMade") (k_InvalidMade Z) (fun _ _ _ _ _ _ _ => hd_plain (sb_one (ss_ret se_str))) (hsO (n := "InvalidLog") (k_InvalidLog Z) (fun _ _ _ _ _ _ _ => hd_plain (sb_one (ss_ret se_str))) (hsO (n := "InvalidLibrary") (k_InvalidLibrary Z) (fun _ _ _ _ _ _ _ => hd_plain (sb_one (ss_ret se_str))) (hsO (n := "InvalidGrid") (k_InvalidGrid Z) (fun _ _ _ _ _ _ _ => hd_plain (sb_one (ss_ret se_str))) (hsO (n := "InvalidChip") (k_InvalidChip Z) (fun _ _ _ _ _ _ _ => hd_plain (sb_one (ss_ret se_str))) (hsO (n := "ChiptrueError") (k_ChiptrueError Z) (fun _ _ _ _ _ _ _ => hd_plain (sb_one (ss_ret se_str))) hs0))))))))))))
abbrev s__law_caught : Stmt := topS 44
abbrev N__law_caught : List Str := ["k", "place", "e"]
theorem sc__law_caught : FnScope N__law_caught ["k", "place"] (defScope s__law_caught) := ⟨rfl, rfl, rfl, by decide +kernel, rfl, by decide +kernel, by decide +kernel⟩
@[irreducible] noncomputable def b__law_caught : MS := (mSeq (mTry tabX (mExpr (mCall m__law_raise (mCons (mVar 0) (mCons (mVar 1) mNil)))) [("ChiptrueError", some 2, (ifIsX clX (retTx (pxs1 (pxF clX "place") (pxs1 (pxF clX "name") pxs0)))))])
  (mRet (mC .non)))
theorem w__law_caught (G : GK K mg) (Z : XK P w K mg) (h__law_raise : FnM P w K mg base 4 "_law_raise" 2 m__law_raise) {m : List D → List Cell → Res D} (hm : ∀ ds S, ds.length = 2 → RefR S (m ds S) (b__law_caught (startD 3 ds) S)) : FnM P w K mg base (4 + 1) "_law_caught" 2 m := by
  refine FnM.def (ps := ["k", "place"]) G.f__law_caught sc__law_caught (fun f cdv A outer s H E tk hp hr => ?_) hm
  unfold b__law_caught
  exact (sb_cons (ss_tryE (tab := tabX) rfl rfl sc__law_caught.nd tk (fun _ pn xe tk hp => (sb_one (ss_expr (se_fn h__law_raise (hr.mono (by omega)) tk (sa_cons (se_var 0) (sa_cons (se_var 1) sa_nil)) (len_cons (len_cons len_nil)))))) (hsN (n := "ChiptrueError") 2 (k_ChiptrueError Z) (fun a oe cls d pn hz hf => (hd_ifIs (isve Z) hz hf G.b_isinstance G.b_ValueError (hd_retT (pxs_cons (px_field (f := "place") (f_place Z) (fun g h => ofString_inj h) hz hf) (pxs_cons (px_field (f := "name") (f_name Z) (fun g h => ofString_inj h) hz hf) pxs_nil))))) hs0))
  (sb_one (ss_ret se_non)))
abbrev s__law_call : Stmt := topS 45
abbrev N__law_call : List Str := ["kind", "value", "e"]
theorem sc__law_call : FnScope N__law_call ["kind", "value"] (defScope s__law_call) := ⟨rfl, rfl, rfl, by decide +kernel, rfl, by decide +kernel, by decide +kernel⟩
@[irreducible] noncomputable def b__law_call (P0 : Addr) : MS := (mSeq (mTry tabX (mIf (mTst (mBin oEq (mVar 0) (mC (.str (cs "term")))))
    (mExpr (mCall m_check_term (mCons (mVar 1) mNil)))
    (mIf (mTst (mBin oEq (mVar 0) (mC (.str (cs "chip")))))
      (mExpr (mMake "Chip" m_Chip (mCons (mBin oIxA (mVar 1) (mC (.int 0))) (mCons (mBin oIxA (mVar 1) (mC (.int 1))) (mCons (mBin oIxA (mVar 1) (mC (.int 2))) (mCons (mBin oIxA (mVar 1) (mC (.int 3))) (mCons (mBin oIxA (mVar 1) (mC (.int 4))) mNil)))))))
      (mExpr (mMake "Net" (m_Net P0 q_Net 0) (mCons (mBin oIxA (mVar 1) (mC (.int 0))) (mCons (mBin oIxA (mVar 1) (mC (.int 1))) (mCons (mBin oIxA (mVar 1) (mC (.int 2))) (mCons (mBin oIxA (mVar 1) (mC (.int 3))) mNil)))))))) [("ChiptrueError", some 2, (retTx (pxs1 (pxF clX "name") (pxs1 (pxF clX "place") pxs0))))])
  (mRet (mC .non)))
theorem w__law_call (G : GK K mg) (Z : XK P w K mg) (h_check_term : FnM P w K mg base 46 "check_term" 1 m_check_term) (h_mk_Chip : MkM P w K mg base 52 "Chip" 5 m_Chip) (h_mk_Net : MkM P w K mg base 9 "Net" 4 (m_Net P0 q_Net 0)) {m : List D → List Cell → Res D} (hm : ∀ ds S, ds.length = 2 → RefR S (m ds S) ((b__law_call P0) (startD 3 ds) S)) : FnM P w K mg base (53 + 1) "_law_call" 2 m := by
  refine FnM.def (ps := ["kind", "value"]) G.f__law_call sc__law_call (fun f cdv A outer s H E tk hp hr => ?_) hm
  unfold b__law_call
  exact (sb_cons (ss_tryE (tab := tabX) rfl rfl sc__law_call.nd tk (fun _ pn xe tk hp => (sb_one (ss_if (st_cmp (od_eq hr.units) (se_var 0) se_str)
    (sb_one (ss_expr (se_fn h_check_term (hr.mono (by omega)) tk (sa_cons (se_var 1) sa_nil) (len_cons len_nil))))
    (sb_one (ss_if (st_cmp (od_eq hr.units) (se_var 0) se_str)
      (sb_one (ss_expr (se_make (c := "Chip") h_mk_Chip (hr.mono (by omega)) tk (sa_cons (se_ixA hr.units (se_var 1) se_int) (sa_cons (se_ixA hr.units (se_var 1) se_int) (sa_cons (se_ixA hr.units (se_var 1) se_int) (sa_cons (se_ixA hr.units (se_var 1) se_int) (sa_cons (se_ixA hr.units (se_var 1) se_int) sa_nil))))) (len_cons (len_cons (len_cons (len_cons (len_cons len_nil))))))))
      (sb_one (ss_expr (se_make (c := "Net") h_mk_Net (hr.mono (by omega)) tk (sa_cons (se_ixA hr.units (se_var 1) se_int) (sa_cons (se_ixA hr.units (se_var 1) se_int) (sa_cons (se_ixA hr.units (se_var 1) se_int) (sa_cons (se_ixA hr.units (se_var 1) se_int) sa_nil)))) (len_cons (len_cons (len_cons (len_cons len_nil)))))))))))) (hsN (n := "ChiptrueError") 2 (k_ChiptrueError Z) (fun a oe cls d pn hz hf => (hd_retT (pxs_cons (px_field (f := "name") (f_name Z) (fun g h => ofString_inj h) hz hf) (pxs_cons (px_field (f := "place") (f_place Z) (fun g h => ofString_inj h) hz hf) pxs_nil)))) hs0))
  (sb_one (ss_ret se_non)))
abbrev s_law : Stmt := topS 46
abbrev N_law : List Str := ["script", "state", "place", "names", "k", "word", "good", "bad", "one", "odd", "rows", "kinds", "wrong", "at", "spot", "value", "spoilt", "twice", "loose", "told", "row"]
theorem sc_law : FnScope N_law ["script"] (defScope s_law) := ⟨rfl, rfl, rfl, by decide +kernel, rfl, by decide +kernel, by decide +kernel⟩
@[irreducible] noncomputable def b_law (P0 : Addr) : MS := (mSeq (mSet 1 (mCall m__law_start (mCons (mVar 0) mNil)))
  (mSeq (mSet 2 (mBin oIxA (mLst (mCons (mCall m__law_pick (mCons (mVar 1) (mCons (mC (.int 100)) mNil))) (mCons (mTup (mCons (mC (.str (cs "in"))) (mCons (mC (.int 2)) mNil))) (mCons (mC .non) (mCons (mC (.str (cs "a"))) mNil))))) (mCall m__law_pick (mCons (mVar 1) (mCons (mC (.int 4)) mNil)))))
  (mSeq (mSet 3 (mLst (mCons (mC (.str (cs "InvalidChip"))) (mCons (mC (.str (cs "InvalidGrid"))) (mCons (mC (.str (cs "InvalidLibrary"))) (mCons (mC (.str (cs "InvalidLog"))) (mCons (mC (.str (cs "InvalidMade"))) (mCons (mC (.str (cs "InvalidNet"))) (mCons (mC (.str (cs "InvalidTerm"))) (mCons (mC (.str (cs "InvalidText"))) (mCons (mC (.str (cs "TooLarge"))) (mCons (mC (.str (cs "ChiptrueError"))) mNil))))))))))))
  (mSeq (mFor (mRng1 (mCons (mC (.int 10)) mNil)) (gN 4)
  (mSeq (mIf (mOr (mTst (mBin oNe (mCall m__law_forwards (mCons (mVar 4) (mCons (mVar 2) mNil))) (mBin oIxA (mVar 3) (mVar 4)))) (mTst (mBin oNe (mCall m__law_backwards (mCons (mVar 4) (mCons (mVar 2) mNil))) (mBin oIxA (mVar 3) (mVar 4)))))
    (mRet (mC (.bl false)))
    mNext)
    (mIf (mNot (mTru (mCall (m_same 30) (mCons (mCall m__law_caught (mCons (mVar 4) (mCons (mVar 2) mNil))) (mCons (mTup (mCons (mVar 2) (mCons (mBin oIxA (mVar 3) (mVar 4)) mNil))) mNil)))))
    (mRet (mC (.bl false)))
    mNext)))
  (mSeq (mSet 5 (mTup (mCons (mC (.str (cs "name"))) (mCons (mBin oIxA (mTup (mCons (mC (.str (cs "a"))) (mCons (mC (.str (cs "b_1"))) (mCons (mC (.str (cs "ready"))) mNil)))) (mCall m__law_pick (mCons (mVar 1) (mCons (mC (.int 3)) mNil)))) mNil))))
  (mSeq (mSet 6 (mLst (mCons (mVar 5) (mCons (mTup (mCons (mC (.str (cs "const"))) (mCons (mC (.int 16)) (mCons (mC (.int 65535)) mNil)))) (mCons (mTup (mCons (mC (.str (cs "not"))) (mCons (mVar 5) mNil))) (mCons (mTup (mCons (mC (.str (cs "add"))) (mCons (mVar 5) (mCons (mVar 5) mNil)))) (mCons (mTup (mCons (mC (.str (cs "pick"))) (mCons (mVar 5) (mCons (mVar 5) (mCons (mVar 5) mNil))))) (mCons (mTup (mCons (mC (.str (cs "part"))) (mCons (mVar 5) (mCons (mC (.int 3)) (mCons (mC (.int 0)) mNil))))) (mCons (mTup (mCons (mC (.str (cs "join"))) (mCons (mTup (mCons (mVar 5) (mCons (mVar 5) mNil))) mNil))) (mCons (mTup (mCons (mC (.str (cs "odd"))) (mCons (mVar 5) mNil))) mNil))))))))))
  (mSeq (mSet 7 (mLst (mCons (mTup (mCons (mC (.str (cs "name"))) (mCons (mC (.str (cs "A"))) mNil))) (mCons (mTup (mCons (mC (.str (cs "name"))) (mCons (mC (.str (cs "when"))) mNil))) (mCons (mTup (mCons (mC (.str (cs "name"))) (mCons (mC (.str (cs ""))) mNil))) (mCons (mTup (mCons (mC (.str (cs "const"))) (mCons (mC (.int 2)) (mCons (mC (.int 4)) mNil)))) (mCons (mTup (mCons (mC (.str (cs "const"))) (mCons (mC (.int 0)) (mCons (mC (.int 0)) mNil)))) (mCons (mTup (mCons (mC (.str (cs "const"))) (mCons (mC (.int 17)) (mCons (mC (.int 1)) mNil)))) (mCons (mTup (mCons (mC (.str (cs "not"))) (mCons (mVar 5) (mCons (mVar 5) mNil)))) (mCons (mTup (mCons (mC (.str (cs "add"))) (mCons (mVar 5) mNil))) mNil))))))))))
  (mSeq (mSet 7 (mBin oAdd (mVar 7) (mLst (mCons (mTup (mCons (mC (.str (cs "pick"))) (mCons (mVar 5) (mCons (mVar 5) mNil)))) (mCons (mTup (mCons (mC (.str (cs "part"))) (mCons (mVar 5) (mCons (mC (.int 0)) (mCons (mC (.int 1)) mNil))))) (mCons (mTup (mCons (mC (.str (cs "join"))) (mCons (mTup (mCons (mVar 5) mNil)) mNil))) (mCons (mTup (mCons (mC (.str (cs "join"))) (mCons (mLst (mCons (mVar 5) (mCons (mVar 5) mNil))) mNil))) mNil)))))))
  (mSeq (mSet 7 (mBin oAdd (mVar 7) (mLst (mCons (mTup (mCons (mC (.str (cs "part"))) (mCons (mVar 5) (mCons (mC (.bl true)) (mCons (mC (.int 0)) mNil))))) (mCons (mTup (mCons (mC (.str (cs "part"))) (mCons (mVar 5) (mCons (mNeg (mC (.int 1))) (mCons (mNeg (mC (.int 2))) mNil))))) (mCons (mC .non) (mCons (mLst (mCons (mC (.str (cs "not"))) (mCons (mVar 5) mNil))) (mCons (mTup mNil) (mCons (mTup (mCons (mC (.str (cs "other"))) (mCons (mVar 5) mNil))) (mCons (mTup (mCons (mC (.str (cs "const"))) (mCons (mC (.int 2)) (mCons (mC (.bl true)) mNil)))) (mCons (mTup (mCons (mC (.str (cs "name"))) (mCons (mC (.int 1)) mNil))) mNil)))))))))))
  (mSeq (mPar 8 9 (mCons (mBin oIxA (mVar 6) (mCall m__law_pick (mCons (mVar 1) (mCons (mC (.int 8)) mNil)))) (mCons (mBin oIxA (mVar 7) (mCall m__law_pick (mCons (mVar 1) (mCons (mC (.int 20)) mNil)))) mNil)))
  (mSeq (mIf (mOr (mTst (mBin oNotN (mCall (m__law_call P0) (mCons (mC (.str (cs "term"))) (mCons (mVar 8) mNil))) (mC .non))) (mOr (mNot (mTru (mCall (m_same 30) (mCons (mCall (m__law_call P0) (mCons (mC (.str (cs "term"))) (mCons (mVar 9) mNil))) (mCons (mTup (mCons (mC (.str (cs "InvalidTerm"))) (mCons (mC .non) mNil))) mNil))))) (mNot (mTru (mCall (m_same 30) (mCons (mCall (m__law_call P0) (mCons (mC (.str (cs "term"))) (mCons (mTup (mCons (mC (.str (cs "not"))) (mCons (mVar 9) mNil))) mNil))) (mCons (mTup (mCons (mC (.str (cs "InvalidTerm"))) (mCons (mC .non) mNil))) mNil)))))))
  (mRet (mC (.bl false)))
  mNext)
  (mSeq (mSet 10 (mTup (mCons (mLst (mCons (mTup (mCons (mC (.str (cs "x"))) (mCons (mC (.int 2)) mNil))) (mCons (mTup (mCons (mC (.str (cs "y"))) (mCons (mC (.int 1)) mNil))) mNil))) (mCons (mLst (mCons (mTup (mCons (mC (.str (cs "r"))) (mCons (mC (.int 2)) (mCons (mC (.int 3)) (mCons (mVar 8) (mCons (mC .non) mNil)))))) (mCons (mTup (mCons (mC (.str (cs "s"))) (mCons (mC (.int 1)) (mCons (mC (.int 0)) (mCons (mVar 5) (mCons (mVar 5) mNil)))))) mNil))) (mCons (mLst (mCons (mTup (mCons (mC (.str (cs "w"))) (mCons (mVar 8) mNil))) mNil)) (mCons (mLst (mCons (mTup (mCons (mC (.str (cs "o"))) (mCons (mVar 5) mNil))) (mCons (mTup (mCons (mC (.str (cs "p"))) (mCons (mVar 8) mNil))) mNil))) mNil))))))
  (mSeq (mPar 11 12 (mCons (mTup (mCons (mC (.str (cs "in"))) (mCons (mC (.str (cs "reg"))) (mCons (mC (.str (cs "wire"))) (mCons (mC (.str (cs "out"))) mNil))))) (mCons (mLst (mCons (mTup (mCons (mC (.str (cs "z"))) (mCons (mVar 9) mNil))) (mCons (mC .non) (mCons (mLst (mCons (mC (.str (cs "z"))) (mCons (mVar 8) mNil))) (mCons (mTup (mCons (mC (.str (cs "A"))) (mCons (mVar 8) mNil))) (mCons (mTup (mCons (mC (.str (cs "z"))) (mCons (mC (.int 17)) (mCons (mC (.int 0)) (mCons (mVar 8) (mCons (mC .non) mNil)))))) (mCons (mTup (mCons (mC (.str (cs "z"))) (mCons (mC (.int 2)) (mCons (mC (.int 4)) (mCons (mVar 8) (mCons (mC .non) mNil)))))) (mCons (mTup (mCons (mC (.str (cs "z"))) mNil)) (mCons (mTup (mCons (mC (.str (cs "z"))) (mCons (mC (.int 0)) mNil))) mNil))))))))) mNil)))
  (mSeq (mIf (mTst (mBin oNotN (mCall (m__law_call P0) (mCons (mC (.str (cs "chip"))) (mCons (mBin oAdd (mTup (mCons (mC (.str (cs "c"))) mNil)) (mF oTupF (mLc (mSeqI (mVar 10)) [20] (gN 20) mYes (mB oTupC (mCons (mVar 20) mNil))))) mNil))) (mC .non)))
  (mRet (mC (.bl false)))
  mNext)
  (mSeq (mSet 13 (mCall m__law_pick (mCons (mVar 1) (mCons (mC (.int 4)) mNil))))
  (mSeq (mSet 14 (mCall m__law_pick (mCons (mVar 1) (mCons (mBin oAdd (mB oLenA (mCons (mBin oIxA (mVar 10) (mVar 13)) mNil)) (mC (.int 1))) mNil))))
  (mSeq (mSet 15 (mBin oIxA (mVar 12) (mCall m__law_pick (mCons (mVar 1) (mCons (mC (.int 8)) mNil)))))
  (mSeq (mSet 16 (mFresh (mLc (mSeqI (mVar 10)) [20] (gN 20) mYes (mB oTupC (mCons (mVar 20) mNil)))))
  (mSeq (mAsg (gSubA (mVar 16) (mVar 13)) (mBin oAdd (mBin oAdd (mSlice (mBin oIxA (mVar 16) (mVar 13)) mNoPart (mPart (mVar 14))) (mTup (mCons (mVar 15) mNil))) (mSlice (mBin oIxA (mVar 16) (mVar 13)) (mPart (mVar 14)) mNoPart)))
  (mSeq (mSet 17 (mFresh (mLc (mSeqI (mVar 10)) [20] (gN 20) mYes (mB oTupC (mCons (mVar 20) mNil)))))
  (mSeq (mAsg (gSubA (mVar 17) (mVar 13)) (mBin oAdd (mBin oIxA (mVar 17) (mVar 13)) (mSlice (mBin oIxA (mVar 17) (mVar 13)) mNoPart (mPart (mC (.int 1))))))
  (mSeq (mSet 18 (mFresh (mLc (mSeqI (mVar 10)) [20] (gN 20) mYes (mB oTupC (mCons (mVar 20) mNil)))))
  (mSeq (mAsg (gSubA (mVar 18) (mVar 13)) (mB oListC (mCons (mBin oIxA (mVar 18) (mVar 13)) mNil)))
  (mSeq (mSet 19 (mLst (mCons (mCall (m__law_call P0) (mCons (mC (.str (cs "chip"))) (mCons (mBin oAdd (mTup (mCons (mC (.str (cs "c"))) mNil)) (mB oTupC (mCons (mVar 16) mNil))) mNil))) (mCons (mCall (m__law_call P0) (mCons (mC (.str (cs "chip"))) (mCons (mBin oAdd (mTup (mCons (mC (.str (cs "c"))) mNil)) (mB oTupC (mCons (mVar 17) mNil))) mNil))) (mCons (mCall (m__law_call P0) (mCons (mC (.str (cs "chip"))) (mCons (mBin oAdd (mTup (mCons (mC (.str (cs "c"))) mNil)) (mB oTupC (mCons (mVar 18) mNil))) mNil))) (mCons (mCall (m__law_call P0) (mCons (mC (.str (cs "chip"))) (mCons (mBin oAdd (mTup (mCons (mC (.str (cs "C"))) mNil)) (mB oTupC (mCons (mVar 18) mNil))) mNil))) mNil))))))
  (mSeq (mIf (mNot (mTru (mCall (m_same 30) (mCons (mVar 19) (mCons (mLst (mCons (mTup (mCons (mC (.str (cs "InvalidChip"))) (mCons (mTup (mCons (mBin oIxA (mVar 11) (mVar 13)) (mCons (mVar 14) mNil))) mNil))) (mCons (mTup (mCons (mC (.str (cs "InvalidChip"))) (mCons (mTup (mCons (mBin oIxA (mVar 11) (mVar 13)) (mCons (mB oLenA (mCons (mBin oIxA (mVar 10) (mVar 13)) mNil)) mNil))) mNil))) (mCons (mTup (mCons (mC (.str (cs "InvalidChip"))) (mCons (mTup (mCons (mBin oIxA (mVar 11) (mVar 13)) (mCons (mC .non) mNil))) mNil))) (mCons (mTup (mCons (mC (.str (cs "InvalidChip"))) (mCons (mTup (mCons (mC (.str (cs "chip"))) (mCons (mC (.int 0)) mNil))) mNil))) mNil))))) mNil)))))
  (mRet (mC (.bl false)))
  mNext)
  (mSeq (mSet 10 (mTup (mCons (mTup (mCons (mC (.str (cs "x"))) mNil)) (mCons (mTup (mCons (mTup (mCons (mC (.str (cs "q"))) (mCons (mC (.int 0)) (mCons (mC (.int 7)) mNil)))) (mCons (mTup (mCons (mC (.str (cs "p"))) (mCons (mC (.int 1)) (mCons (mC (.int 2)) mNil)))) mNil))) (mCons (mTup (mCons (mTup (mCons (mC (.int 2)) (mCons (mC (.int 5)) mNil))) (mCons (mTup (mCons (mC (.int 8)) (mCons (mC (.int 3)) mNil))) mNil))) (mCons (mTup (mCons (mTup (mCons (mC (.str (cs "o"))) (mCons (mC (.int 10)) mNil))) mNil)) mNil))))))
  (mSeq (mPar 11 12 (mCons (mTup (mCons (mC (.str (cs "in"))) (mCons (mC (.str (cs "latch"))) (mCons (mC (.str (cs "and"))) (mCons (mC (.str (cs "out"))) mNil))))) (mCons (mLst (mCons (mTup (mCons (mC (.int 1)) (mCons (mC .non) (mCons (mLst (mCons (mC (.str (cs "x"))) mNil)) mNil)))) (mCons (mTup (mCons (mTup (mCons (mC (.str (cs "z"))) (mCons (mC (.int 2)) (mCons (mC (.int 0)) mNil)))) (mCons (mTup (mCons (mC (.str (cs "z"))) (mCons (mC (.int 0)) (mCons (mC (.int 12)) mNil)))) (mCons (mC .non) (mCons (mTup (mCons (mC (.str (cs "z"))) (mCons (mC (.int 0)) mNil))) mNil))))) (mCons (mTup (mCons (mTup (mCons (mC (.int 8)) (mCons (mC (.int 0)) mNil))) (mCons (mTup (mCons (mC (.int 0)) (mCons (mBin oPow (mC (.int 10)) (mC (.int 9))) mNil))) (mCons (mC .non) (mCons (mTup (mCons (mNeg (mC (.int 1))) (mCons (mC (.int 0)) mNil))) mNil))))) (mCons (mTup (mCons (mTup (mCons (mC (.str (cs "z"))) (mCons (mC (.int 99)) mNil))) (mCons (mC .non) (mCons (mTup (mCons (mC (.str (cs "z"))) mNil)) (mCons (mTup (mCons (mC (.int 1)) (mCons (mC (.int 0)) mNil))) mNil))))) mNil))))) mNil)))
  (mSeq (mIf (mTst (mBin oNotN (mCall (m__law_call P0) (mCons (mC (.str (cs "net"))) (mCons (mVar 10) mNil))) (mC .non)))
  (mRet (mC (.bl false)))
  mNext)
  (mSeq (mSet 13 (mCall m__law_pick (mCons (mVar 1) (mCons (mC (.int 4)) mNil))))
  (mSeq (mSet 15 (mBin oIxA (mBin oIxA (mVar 12) (mVar 13)) (mCall m__law_pick (mCons (mVar 1) (mCons (mB oLenA (mCons (mBin oIxA (mVar 12) (mVar 13)) mNil)) mNil)))))
  (mSeq (mSet 16 (mBin oAdd (mBin oAdd (mSlice (mVar 10) mNoPart (mPart (mVar 13))) (mTup (mCons (mTup (mCons (mVar 15) mNil)) mNil))) (mSlice (mVar 10) (mPart (mBin oAdd (mVar 13) (mC (.int 1)))) mNoPart)))
  (mSeq (mSet 19 (mLst (mCons (mCall (m__law_call P0) (mCons (mC (.str (cs "net"))) (mCons (mVar 16) mNil))) (mCons (mCall (m__law_call P0) (mCons (mC (.str (cs "net"))) (mCons (mBin oAdd (mBin oAdd (mSlice (mVar 10) mNoPart (mPart (mVar 13))) (mTup (mCons (mB oListC (mCons (mBin oIxA (mVar 10) (mVar 13)) mNil)) mNil))) (mSlice (mVar 10) (mPart (mBin oAdd (mVar 13) (mC (.int 1)))) mNoPart)) mNil))) mNil))))
  (mRet (mCall (m_same 30) (mCons (mVar 19) (mCons (mLst (mCons (mTup (mCons (mC (.str (cs "InvalidNet"))) (mCons (mTup (mCons (mBin oIxA (mVar 11) (mVar 13)) (mCons (mC (.int 0)) mNil))) mNil))) (mCons (mTup (mCons (mC (.str (cs "InvalidNet"))) (mCons (mTup (mCons (mBin oIxA (mVar 11) (mVar 13)) (mCons (mC .non) mNil))) mNil))) mNil))) mNil))))))))))))))))))))))))))))))))))))
theorem w_law (G : GK K mg) (h__law_backwards : FnM P w K mg base 5 "_law_backwards" 2 m__law_backwards) (h__law_call : FnM P w K mg base 54 "_law_call" 2 (m__law_call P0)) (h__law_caught : FnM P w K mg base 5 "_law_caught" 2 m__law_caught) (h__law_forwards : FnM P w K mg base 5 "_law_forwards" 2 m__law_forwards) (h__law_pick : FnM P w K mg base 1 "_law_pick" 2 m__law_pick) (h__law_same : FnM P w K mg base 31 "_law_same" 2 (m_same 30)) (h__law_start : FnM P w K mg base 1 "_law_start" 1 m__law_start) {f : Addr} {fd : FuncData} (F : Fun K "law" "law" s_law f fd) {m : List D → List Cell → Res D} (hm : ∀ ds S, ds.length = 1 → RefR S (m ds S) ((b_law P0) (startD 21 ds) S)) : FnOk P w K mg base (L2.CX P w) (54 + 1) f fd ["script"] (spM mg K 1 m) := by
  refine fnOk_def (ps := ["script"]) F sc_law (fun f cdv A outer s H E tk hp hr => ?_) hm
  unfold b_law
  exact (sb_cons (ss_set 1 sc_law.nd (se_fn h__law_start (hr.mono (by omega)) tk (sa_cons (se_var 0) sa_nil) (len_cons len_nil)))
  (sb_cons (ss_set 2 sc_law.nd (se_ixA hr.units (se_lst (sa_cons (se_fn h__law_pick (hr.mono (by omega)) tk (sa_cons (se_var 1) (sa_cons se_int sa_nil)) (len_cons (len_cons len_nil))) (sa_cons (se_tup (sa_cons se_str (sa_cons se_int sa_nil))) (sa_cons se_non (sa_cons se_str sa_nil))))) (se_fn h__law_pick (hr.mono (by omega)) tk (sa_cons (se_var 1) (sa_cons se_int sa_nil)) (len_cons (len_cons len_nil)))))
  (sb_cons (ss_set 3 sc_law.nd (se_lst (sa_cons se_str (sa_cons se_str (sa_cons se_str (sa_cons se_str (sa_cons se_str (sa_cons se_str (sa_cons se_str (sa_cons se_str (sa_cons se_str (sa_cons se_str sa_nil))))))))))))
  (sb_cons (ss_for hp rfl (si_range1 G.b_range (sa_cons se_int sa_nil)) (sg_name 4 sc_law.nd)
  (sb_cons (ss_if (st_sw (sw_or (st_cmp (od_ne hr.units) (se_fn h__law_forwards (hr.mono (by omega)) tk (sa_cons (se_var 4) (sa_cons (se_var 2) sa_nil)) (len_cons (len_cons len_nil))) (se_ixA hr.units (se_var 3) (se_var 4))) (sw_or1 (st_cmp (od_ne hr.units) (se_fn h__law_backwards (hr.mono (by omega)) tk (sa_cons (se_var 4) (sa_cons (se_var 2) sa_nil)) (len_cons (len_cons len_nil))) (se_ixA hr.units (se_var 3) (se_var 4))))))
    (sb_one (ss_ret se_bl))
    sb_nil)
    (sb_one (ss_if (st_not (st_tru (se_fn h__law_same (hr.mono (by omega)) tk (sa_cons (se_fn h__law_caught (hr.mono (by omega)) tk (sa_cons (se_var 4) (sa_cons (se_var 2) sa_nil)) (len_cons (len_cons len_nil))) (sa_cons (se_tup (sa_cons (se_var 2) (sa_cons (se_ixA hr.units (se_var 3) (se_var 4)) sa_nil))) sa_nil)) (len_cons (len_cons len_nil)))))
    (sb_one (ss_ret se_bl))
    sb_nil))))
  (sb_cons (ss_set 5 sc_law.nd (se_tup (sa_cons se_str (sa_cons (se_ixA hr.units (se_tup (sa_cons se_str (sa_cons se_str (sa_cons se_str sa_nil)))) (se_fn h__law_pick (hr.mono (by omega)) tk (sa_cons (se_var 1) (sa_cons se_int sa_nil)) (len_cons (len_cons len_nil)))) sa_nil))))
  (sb_cons (ss_set 6 sc_law.nd (se_lst (sa_cons (se_var 5) (sa_cons (se_tup (sa_cons se_str (sa_cons se_int (sa_cons se_int sa_nil)))) (sa_cons (se_tup (sa_cons se_str (sa_cons (se_var 5) sa_nil))) (sa_cons (se_tup (sa_cons se_str (sa_cons (se_var 5) (sa_cons (se_var 5) sa_nil)))) (sa_cons (se_tup (sa_cons se_str (sa_cons (se_var 5) (sa_cons (se_var 5) (sa_cons (se_var 5) sa_nil))))) (sa_cons (se_tup (sa_cons se_str (sa_cons (se_var 5) (sa_cons se_int (sa_cons se_int sa_nil))))) (sa_cons (se_tup (sa_cons se_str (sa_cons (se_tup (sa_cons (se_var 5) (sa_cons (se_var 5) sa_nil))) sa_nil))) (sa_cons (se_tup (sa_cons se_str (sa_cons (se_var 5) sa_nil))) sa_nil))))))))))
  (sb_cons (ss_set 7 sc_law.nd (se_lst (sa_cons (se_tup (sa_cons se_str (sa_cons se_str sa_nil))) (sa_cons (se_tup (sa_cons se_str (sa_cons se_str sa_nil))) (sa_cons (se_tup (sa_cons se_str (sa_cons se_str sa_nil))) (sa_cons (se_tup (sa_cons se_str (sa_cons se_int (sa_cons se_int sa_nil)))) (sa_cons (se_tup (sa_cons se_str (sa_cons se_int (sa_cons se_int sa_nil)))) (sa_cons (se_tup (sa_cons se_str (sa_cons se_int (sa_cons se_int sa_nil)))) (sa_cons (se_tup (sa_cons se_str (sa_cons (se_var 5) (sa_cons (se_var 5) sa_nil)))) (sa_cons (se_tup (sa_cons se_str (sa_cons (se_var 5) sa_nil))) sa_nil))))))))))
  (sb_cons (ss_set 7 sc_law.nd (se_bin od_add (se_var 7) (se_lst (sa_cons (se_tup (sa_cons se_str (sa_cons (se_var 5) (sa_cons (se_var 5) sa_nil)))) (sa_cons (se_tup (sa_cons se_str (sa_cons (se_var 5) (sa_cons se_int (sa_cons se_int sa_nil))))) (sa_cons (se_tup (sa_cons se_str (sa_cons (se_tup (sa_cons (se_var 5) sa_nil)) sa_nil))) (sa_cons (se_tup (sa_cons se_str (sa_cons (se_lst (sa_cons (se_var 5) (sa_cons (se_var 5) sa_nil))) sa_nil))) sa_nil)))))))
  (sb_cons (ss_set 7 sc_law.nd (se_bin od_add (se_var 7) (se_lst (sa_cons (se_tup (sa_cons se_str (sa_cons (se_var 5) (sa_cons se_bl (sa_cons se_int sa_nil))))) (sa_cons (se_tup (sa_cons se_str (sa_cons (se_var 5) (sa_cons (se_neg se_int) (sa_cons (se_neg se_int) sa_nil))))) (sa_cons se_non (sa_cons (se_lst (sa_cons se_str (sa_cons (se_var 5) sa_nil))) (sa_cons (se_tup sa_nil) (sa_cons (se_tup (sa_cons se_str (sa_cons (se_var 5) sa_nil))) (sa_cons (se_tup (sa_cons se_str (sa_cons se_int (sa_cons se_bl sa_nil)))) (sa_cons (se_tup (sa_cons se_str (sa_cons se_int sa_nil))) sa_nil)))))))))))
  (sb_cons (ss_par 8 9 rfl sc_law.nd (sa_cons (se_ixA hr.units (se_var 6) (se_fn h__law_pick (hr.mono (by omega)) tk (sa_cons (se_var 1) (sa_cons se_int sa_nil)) (len_cons (len_cons len_nil)))) (sa_cons (se_ixA hr.units (se_var 7) (se_fn h__law_pick (hr.mono (by omega)) tk (sa_cons (se_var 1) (sa_cons se_int sa_nil)) (len_cons (len_cons len_nil)))) sa_nil)))
  (sb_cons (ss_if (st_sw (sw_or (st_cmp od_notN (se_fn h__law_call (hr.mono (by omega)) tk (sa_cons se_str (sa_cons (se_var 8) sa_nil)) (len_cons (len_cons len_nil))) se_non) (sw_or (st_not (st_tru (se_fn h__law_same (hr.mono (by omega)) tk (sa_cons (se_fn h__law_call (hr.mono (by omega)) tk (sa_cons se_str (sa_cons (se_var 9) sa_nil)) (len_cons (len_cons len_nil))) (sa_cons (se_tup (sa_cons se_str (sa_cons se_non sa_nil))) sa_nil)) (len_cons (len_cons len_nil))))) (sw_or1 (st_not (st_tru (se_fn h__law_same (hr.mono (by omega)) tk (sa_cons (se_fn h__law_call (hr.mono (by omega)) tk (sa_cons se_str (sa_cons (se_tup (sa_cons se_str (sa_cons (se_var 9) sa_nil))) sa_nil)) (len_cons (len_cons len_nil))) (sa_cons (se_tup (sa_cons se_str (sa_cons se_non sa_nil))) sa_nil)) (len_cons (len_cons len_nil)))))))))
  (sb_one (ss_ret se_bl))
  sb_nil)
  (sb_cons (ss_set 10 sc_law.nd (se_tup (sa_cons (se_lst (sa_cons (se_tup (sa_cons se_str (sa_cons se_int sa_nil))) (sa_cons (se_tup (sa_cons se_str (sa_cons se_int sa_nil))) sa_nil))) (sa_cons (se_lst (sa_cons (se_tup (sa_cons se_str (sa_cons se_int (sa_cons se_int (sa_cons (se_var 8) (sa_cons se_non sa_nil)))))) (sa_cons (se_tup (sa_cons se_str (sa_cons se_int (sa_cons se_int (sa_cons (se_var 5) (sa_cons (se_var 5) sa_nil)))))) sa_nil))) (sa_cons (se_lst (sa_cons (se_tup (sa_cons se_str (sa_cons (se_var 8) sa_nil))) sa_nil)) (sa_cons (se_lst (sa_cons (se_tup (sa_cons se_str (sa_cons (se_var 5) sa_nil))) (sa_cons (se_tup (sa_cons se_str (sa_cons (se_var 8) sa_nil))) sa_nil))) sa_nil))))))
  (sb_cons (ss_par 11 12 rfl sc_law.nd (sa_cons (se_tup (sa_cons se_str (sa_cons se_str (sa_cons se_str (sa_cons se_str sa_nil))))) (sa_cons (se_lst (sa_cons (se_tup (sa_cons se_str (sa_cons (se_var 9) sa_nil))) (sa_cons se_non (sa_cons (se_lst (sa_cons se_str (sa_cons (se_var 8) sa_nil))) (sa_cons (se_tup (sa_cons se_str (sa_cons (se_var 8) sa_nil))) (sa_cons (se_tup (sa_cons se_str (sa_cons se_int (sa_cons se_int (sa_cons (se_var 8) (sa_cons se_non sa_nil)))))) (sa_cons (se_tup (sa_cons se_str (sa_cons se_int (sa_cons se_int (sa_cons (se_var 8) (sa_cons se_non sa_nil)))))) (sa_cons (se_tup (sa_cons se_str sa_nil)) (sa_cons (se_tup (sa_cons se_str (sa_cons se_int sa_nil))) sa_nil))))))))) sa_nil)))
  (sb_cons (ss_if (st_cmp od_notN (se_fn h__law_call (hr.mono (by omega)) tk (sa_cons se_str (sa_cons (se_bin od_add (se_tup (sa_cons se_str sa_nil)) (se_callFT cf_tuple G.b_tuple (sl_lc [(("row" : Str), 20)] rfl sc_law.nd (si_seq (se_var 10)) (blkOk_by (N := N_law) (sc := defScope s_law) (by decide +kernel)) (fun _ _ _ _ _ => (sgw_name 20 sc_law.nd)) (fun _ _ _ _ _ => sts_nil) (fun _ _ _ _ _ => (se_callTy cd_tuple G.b_tuple (sa_cons (se_var 20) sa_nil)))))) sa_nil)) (len_cons (len_cons len_nil))) se_non)
  (sb_one (ss_ret se_bl))
  sb_nil)
  (sb_cons (ss_set 13 sc_law.nd (se_fn h__law_pick (hr.mono (by omega)) tk (sa_cons (se_var 1) (sa_cons se_int sa_nil)) (len_cons (len_cons len_nil))))
  (sb_cons (ss_set 14 sc_law.nd (se_fn h__law_pick (hr.mono (by omega)) tk (sa_cons (se_var 1) (sa_cons (se_bin od_add (se_callB cd_lenA G.b_len (sa_cons (se_ixA hr.units (se_var 10) (se_var 13)) sa_nil)) se_int) sa_nil)) (len_cons (len_cons len_nil))))
  (sb_cons (ss_set 15 sc_law.nd (se_ixA hr.units (se_var 12) (se_fn h__law_pick (hr.mono (by omega)) tk (sa_cons (se_var 1) (sa_cons se_int sa_nil)) (len_cons (len_cons len_nil)))))
  (sb_cons (ss_setLc 16 [(("row" : Str), 20)] rfl sc_law.nd (si_seq (se_var 10)) (blkOk_by (N := N_law) (sc := defScope s_law) (by decide +kernel)) (fun _ _ _ _ _ => (sgw_name 20 sc_law.nd)) (fun _ _ _ _ _ => sts_nil) (fun _ _ _ _ _ => (se_callTy cd_tuple G.b_tuple (sa_cons (se_var 20) sa_nil))))
  (sb_cons (ss_asg (se_bin od_add (se_bin od_add (se_slice (se_ixA hr.units (se_var 16) (se_var 13)) so_none (so_some (se_var 14))) (se_tup (sa_cons (se_var 15) sa_nil))) (se_slice (se_ixA hr.units (se_var 16) (se_var 13)) (so_some (se_var 14)) so_none)) (sg_subA hr.units (se_var 16) (se_var 13)))
  (sb_cons (ss_setLc 17 [(("row" : Str), 20)] rfl sc_law.nd (si_seq (se_var 10)) (blkOk_by (N := N_law) (sc := defScope s_law) (by decide +kernel)) (fun _ _ _ _ _ => (sgw_name 20 sc_law.nd)) (fun _ _ _ _ _ => sts_nil) (fun _ _ _ _ _ => (se_callTy cd_tuple G.b_tuple (sa_cons (se_var 20) sa_nil))))
  (sb_cons (ss_asg (se_bin od_add (se_ixA hr.units (se_var 17) (se_var 13)) (se_slice (se_ixA hr.units (se_var 17) (se_var 13)) so_none (so_some se_int))) (sg_subA hr.units (se_var 17) (se_var 13)))
  (sb_cons (ss_setLc 18 [(("row" : Str), 20)] rfl sc_law.nd (si_seq (se_var 10)) (blkOk_by (N := N_law) (sc := defScope s_law) (by decide +kernel)) (fun _ _ _ _ _ => (sgw_name 20 sc_law.nd)) (fun _ _ _ _ _ => sts_nil) (fun _ _ _ _ _ => (se_callTy cd_tuple G.b_tuple (sa_cons (se_var 20) sa_nil))))
  (sb_cons (ss_asg (se_callTy cd_list G.b_list (sa_cons (se_ixA hr.units (se_var 18) (se_var 13)) sa_nil)) (sg_subA hr.units (se_var 18) (se_var 13)))
  (sb_cons (ss_set 19 sc_law.nd (se_lst (sa_cons (se_fn h__law_call (hr.mono (by omega)) tk (sa_cons se_str (sa_cons (se_bin od_add (se_tup (sa_cons se_str sa_nil)) (se_callTy cd_tuple G.b_tuple (sa_cons (se_var 16) sa_nil))) sa_nil)) (len_cons (len_cons len_nil))) (sa_cons (se_fn h__law_call (hr.mono (by omega)) tk (sa_cons se_str (sa_cons (se_bin od_add (se_tup (sa_cons se_str sa_nil)) (se_callTy cd_tuple G.b_tuple (sa_cons (se_var 17) sa_nil))) sa_nil)) (len_cons (len_cons len_nil))) (sa_cons (se_fn h__law_call (hr.mono (by omega)) tk (sa_cons se_str (sa_cons (se_bin od_add (se_tup (sa_cons se_str sa_nil)) (se_callTy cd_tuple G.b_tuple (sa_cons (se_var 18) sa_nil))) sa_nil)) (len_cons (len_cons len_nil))) (sa_cons (se_fn h__law_call (hr.mono (by omega)) tk (sa_cons se_str (sa_cons (se_bin od_add (se_tup (sa_cons se_str sa_nil)) (se_callTy cd_tuple G.b_tuple (sa_cons (se_var 18) sa_nil))) sa_nil)) (len_cons (len_cons len_nil))) sa_nil))))))
  (sb_cons (ss_if (st_not (st_tru (se_fn h__law_same (hr.mono (by omega)) tk (sa_cons (se_var 19) (sa_cons (se_lst (sa_cons (se_tup (sa_cons se_str (sa_cons (se_tup (sa_cons (se_ixA hr.units (se_var 11) (se_var 13)) (sa_cons (se_var 14) sa_nil))) sa_nil))) (sa_cons (se_tup (sa_cons se_str (sa_cons (se_tup (sa_cons (se_ixA hr.units (se_var 11) (se_var 13)) (sa_cons (se_callB cd_lenA G.b_len (sa_cons (se_ixA hr.units (se_var 10) (se_var 13)) sa_nil)) sa_nil))) sa_nil))) (sa_cons (se_tup (sa_cons se_str (sa_cons (se_tup (sa_cons (se_ixA hr.units (se_var 11) (se_var 13)) (sa_cons se_non sa_nil))) sa_nil))) (sa_cons (se_tup (sa_cons se_str (sa_cons (se_tup (sa_cons se_str (sa_cons se_int sa_nil))) sa_nil))) sa_nil))))) sa_nil)) (len_cons (len_cons len_nil)))))
  (sb_one (ss_ret se_bl))
  sb_nil)
  (sb_cons (ss_set 10 sc_law.nd (se_tup (sa_cons (se_tup (sa_cons se_str sa_nil)) (sa_cons (se_tup (sa_cons (se_tup (sa_cons se_str (sa_cons se_int (sa_cons se_int sa_nil)))) (sa_cons (se_tup (sa_cons se_str (sa_cons se_int (sa_cons se_int sa_nil)))) sa_nil))) (sa_cons (se_tup (sa_cons (se_tup (sa_cons se_int (sa_cons se_int sa_nil))) (sa_cons (se_tup (sa_cons se_int (sa_cons se_int sa_nil))) sa_nil))) (sa_cons (se_tup (sa_cons (se_tup (sa_cons se_str (sa_cons se_int sa_nil))) sa_nil)) sa_nil))))))
  (sb_cons (ss_par 11 12 rfl sc_law.nd (sa_cons (se_tup (sa_cons se_str (sa_cons se_str (sa_cons se_str (sa_cons se_str sa_nil))))) (sa_cons (se_lst (sa_cons (se_tup (sa_cons se_int (sa_cons se_non (sa_cons (se_lst (sa_cons se_str sa_nil)) sa_nil)))) (sa_cons (se_tup (sa_cons (se_tup (sa_cons se_str (sa_cons se_int (sa_cons se_int sa_nil)))) (sa_cons (se_tup (sa_cons se_str (sa_cons se_int (sa_cons se_int sa_nil)))) (sa_cons se_non (sa_cons (se_tup (sa_cons se_str (sa_cons se_int sa_nil))) sa_nil))))) (sa_cons (se_tup (sa_cons (se_tup (sa_cons se_int (sa_cons se_int sa_nil))) (sa_cons (se_tup (sa_cons se_int (sa_cons (se_bin od_pow se_int se_int) sa_nil))) (sa_cons se_non (sa_cons (se_tup (sa_cons (se_neg se_int) (sa_cons se_int sa_nil))) sa_nil))))) (sa_cons (se_tup (sa_cons (se_tup (sa_cons se_str (sa_cons se_int sa_nil))) (sa_cons se_non (sa_cons (se_tup (sa_cons se_str sa_nil)) (sa_cons (se_tup (sa_cons se_int (sa_cons se_int sa_nil))) sa_nil))))) sa_nil))))) sa_nil)))
  (sb_cons (ss_if (st_cmp od_notN (se_fn h__law_call (hr.mono (by omega)) tk (sa_cons se_str (sa_cons (se_var 10) sa_nil)) (len_cons (len_cons len_nil))) se_non)
  (sb_one (ss_ret se_bl))
  sb_nil)
  (sb_cons (ss_set 13 sc_law.nd (se_fn h__law_pick (hr.mono (by omega)) tk (sa_cons (se_var 1) (sa_cons se_int sa_nil)) (len_cons (len_cons len_nil))))
  (sb_cons (ss_set 15 sc_law.nd (se_ixA hr.units (se_ixA hr.units (se_var 12) (se_var 13)) (se_fn h__law_pick (hr.mono (by omega)) tk (sa_cons (se_var 1) (sa_cons (se_callB cd_lenA G.b_len (sa_cons (se_ixA hr.units (se_var 12) (se_var 13)) sa_nil)) sa_nil)) (len_cons (len_cons len_nil)))))
  (sb_cons (ss_set 16 sc_law.nd (se_bin od_add (se_bin od_add (se_slice (se_var 10) so_none (so_some (se_var 13))) (se_tup (sa_cons (se_tup (sa_cons (se_var 15) sa_nil)) sa_nil))) (se_slice (se_var 10) (so_some (se_bin od_add (se_var 13) se_int)) so_none)))
  (sb_cons (ss_set 19 sc_law.nd (se_lst (sa_cons (se_fn h__law_call (hr.mono (by omega)) tk (sa_cons se_str (sa_cons (se_var 16) sa_nil)) (len_cons (len_cons len_nil))) (sa_cons (se_fn h__law_call (hr.mono (by omega)) tk (sa_cons se_str (sa_cons (se_bin od_add (se_bin od_add (se_slice (se_var 10) so_none (so_some (se_var 13))) (se_tup (sa_cons (se_callTy cd_list G.b_list (sa_cons (se_ixA hr.units (se_var 10) (se_var 13)) sa_nil)) sa_nil))) (se_slice (se_var 10) (so_some (se_bin od_add (se_var 13) se_int)) so_none)) sa_nil)) (len_cons (len_cons len_nil))) sa_nil))))
  (sb_one (ss_ret (se_fn h__law_same (hr.mono (by omega)) tk (sa_cons (se_var 19) (sa_cons (se_lst (sa_cons (se_tup (sa_cons se_str (sa_cons (se_tup (sa_cons (se_ixA hr.units (se_var 11) (se_var 13)) (sa_cons se_int sa_nil))) sa_nil))) (sa_cons (se_tup (sa_cons se_str (sa_cons (se_tup (sa_cons (se_ixA hr.units (se_var 11) (se_var 13)) (sa_cons se_non sa_nil))) sa_nil))) sa_nil))) sa_nil)) (len_cons (len_cons len_nil)))))))))))))))))))))))))))))))))))))
end
end K00

namespace K00
open PySem PySem.Spec PyProof.Rows L2 Fx
theorem raise_ev {k : Nat} {place : D} {S : List Cell} {c : String} {ns : List (List Nat)} (h : exN[k]? = some (c, ns)) : b__law_raise [some (.int (k : Nat)), some place] S = .exc ⟨c, exFs ns place⟩ [some (.int (k : Nat)), some place] S := by
  unfold b__law_raise
  match k, h with
  | 0, h => cases h; simp
  | 1, h => cases h; simp
  | 2, h => cases h; simp
  | 3, h => cases h; simp
  | 4, h => cases h; simp
  | 5, h => cases h; simp
  | 6, h => cases h; simp
  | 7, h => cases h; simp
  | 8, h => cases h; simp
  | 9, h => cases h; simp
  | n + 10, h => cases h
theorem ref_raise (ds : List D) (S : List Cell) (h : ds.length = 2) : RefR S (m__law_raise ds S) (b__law_raise (startD 2 ds) S) := by
  unfold m__law_raise
  split
  · rename_i k place
    split
    · rename_i hk
      split
      · rename_i c ns he
        obtain ⟨j, rfl⟩ := Int.eq_ofNat_of_zero_le hk.1
        have e := raise_ev (place := place) (S := S) he
        have hb := okv_bel hk.2
        refine ⟨Nat.le_refl _, ?_, fun c hc => .inl hc, [], _, by rw [List.append_nil]; exact e⟩
        have : (exFs ns place).map (·.2) = ns.map D.str ++ [place] := by simp [exFs]
        rw [this]
        refine belL_of fun d hd => ?_
        rcases List.mem_append.mp hd with hd | hd
        · obtain ⟨x, _, rfl⟩ := List.mem_map.mp hd
          simp
        · rw [List.mem_singleton] at hd
          rw [hd]
          exact hb
      · trivial
    · trivial
  · trivial
theorem rz_ev {k : Nat} {place : D} {S : List Cell} {c : String} {ns : List (List Nat)} (hp : okv S place = true) (h : exN[k]? = some (c, ns)) : m__law_raise [.int (k : Nat), place] S = .exc ⟨c, exFs ns place⟩ S := by
  unfold m__law_raise
  simp only [hp, and_true, Int.natCast_nonneg, if_true, Int.toNat_natCast, h]
theorem ref_forwards (ds : List D) (S : List Cell) (h : ds.length = 2) : RefR S (m__law_forwards ds S) (b__law_forwards (startD 2 ds) S) := by
  unfold m__law_forwards
  split
  · rename_i k place
    split
    · rename_i hk
      split
      · rename_i x he
        obtain ⟨j, rfl⟩ := Int.eq_ofNat_of_zero_le hk.1
        refine ref_pure0 (by simp) ?_
        have hst : startD 2 [D.int (j : Nat), place] = [some (.int (j : Nat)), some place] := rfl
        rw [hst]
        unfold b__law_forwards mTry
        have hr : ∀ c ns, exN[j]? = some (c, ns) → (mExpr (mCall m__law_raise (mCons (mVar 0) (mCons (mVar 1) mNil)))) [some (.int (j : Nat)), some place] S = .exc ⟨c, exFs ns place⟩ [some (.int (j : Nat)), some place] S := fun c ns hq => by
          simp only [mExpr_ev, mCall_ev, mCons_ev, mVar_ev, mNil_ev, List.getElem?_cons_succ, List.getElem?_cons_zero, bind_ok, rz_ev hk.2 hq, thenS_exc]
        have he : nmK[j]? = some x := he
        match j, he, hr with
        | 0, he, hr => cases he; rw [hr _ _ rfl]; rfl
        | 1, he, hr => cases he; rw [hr _ _ rfl]; rfl
        | 2, he, hr => cases he; rw [hr _ _ rfl]; rfl
        | 3, he, hr => cases he; rw [hr _ _ rfl]; rfl
        | 4, he, hr => cases he; rw [hr _ _ rfl]; rfl
        | 5, he, hr => cases he; rw [hr _ _ rfl]; rfl
        | 6, he, hr => cases he; rw [hr _ _ rfl]; rfl
        | 7, he, hr => cases he; rw [hr _ _ rfl]; rfl
        | 8, he, hr => cases he; rw [hr _ _ rfl]; rfl
        | 9, he, hr => cases he; rw [hr _ _ rfl]; rfl
        | n + 10, he, hr => cases he
      · trivial
    · trivial
  · trivial
end K00

namespace K00
open PySem PySem.Spec PyProof.Rows L2 Fx
theorem ref_backwards (ds : List D) (S : List Cell) (h : ds.length = 2) : RefR S (m__law_backwards ds S) (b__law_backwards (startD 2 ds) S) := by
  unfold m__law_backwards m__law_forwards
  split
  · rename_i k place
    split
    · rename_i hk
      split
      · rename_i x he
        obtain ⟨j, rfl⟩ := Int.eq_ofNat_of_zero_le hk.1
        refine ref_pure0 (by simp) ?_
        have hst : startD 2 [D.int (j : Nat), place] = [some (.int (j : Nat)), some place] := rfl
        rw [hst]
        unfold b__law_backwards mTry
        have hr : ∀ c ns, exN[j]? = some (c, ns) → (mExpr (mCall m__law_raise (mCons (mVar 0) (mCons (mVar 1) mNil)))) [some (.int (j : Nat)), some place] S = .exc ⟨c, exFs ns place⟩ [some (.int (j : Nat)), some place] S := fun c ns hq => by
          simp only [mExpr_ev, mCall_ev, mCons_ev, mVar_ev, mNil_ev, List.getElem?_cons_succ, List.getElem?_cons_zero, bind_ok, rz_ev hk.2 hq, thenS_exc]
        have he : nmK[j]? = some x := he
        match j, he, hr with
        | 0, he, hr => cases he; rw [hr _ _ rfl]; rfl
        | 1, he, hr => cases he; rw [hr _ _ rfl]; rfl
        | 2, he, hr => cases he; rw [hr _ _ rfl]; rfl
        | 3, he, hr => cases he; rw [hr _ _ rfl]; rfl
        | 4, he, hr => cases he; rw [hr _ _ rfl]; rfl
        | 5, he, hr => cases he; rw [hr _ _ rfl]; rfl
        | 6, he, hr => cases he; rw [hr _ _ rfl]; rfl
        | 7, he, hr => cases he; rw [hr _ _ rfl]; rfl
        | 8, he, hr => cases he; rw [hr _ _ rfl]; rfl
        | 9, he, hr => cases he; rw [hr _ _ rfl]; rfl
        | n + 10, he, hr => cases he
      · trivial
    · trivial
  · trivial
theorem seq_rtS {a b : MS} {sd : Sl} {S S1 : List Cell} {d : D} (h : a sd S = .rt d S1) : mSeq a b sd S = .rt d S1 := by
  simp only [mSeq_ev, h]
theorem try_exc {tab : Tab} {b : MS} {hs : List HCl} {sd sd1 : Sl} {S S1 : List Cell} {x : Ex} (h : b sd S = .exc x sd1 S1) : mTry tab b hs sd S = mHd tab x hs sd1 S1 := by
  unfold mTry
  rw [h]
theorem try_nx {tab : Tab} {b : MS} {hs : List HCl} {sd sd1 : Sl} {S S1 : List Cell} (h : b sd S = .nx sd1 S1) : mTry tab b hs sd S = .nx sd1 S1 := by
  unfold mTry
  rw [h]
theorem ref_caught (ds : List D) (S : List Cell) (h : ds.length = 2) : RefR S (m__law_caught ds S) (b__law_caught (startD 3 ds) S) := by
  unfold m__law_caught
  split
  · rename_i k place
    split
    · rename_i hk
      split
      · rename_i x he
        obtain ⟨j, rfl⟩ := Int.eq_ofNat_of_zero_le hk.1
        refine ref_pure0 (by simp [okv_bel hk.2]) ?_
        have hst : startD 3 [D.int (j : Nat), place] = [some (.int (j : Nat)), some place, none] := rfl
        rw [hst]
        unfold b__law_caught
        have hr : ∀ c ns, exN[j]? = some (c, ns) → (mExpr (mCall m__law_raise (mCons (mVar 0) (mCons (mVar 1) mNil)))) [some (.int (j : Nat)), some place, none] S = .exc ⟨c, exFs ns place⟩ [some (.int (j : Nat)), some place, none] S := fun c ns hq => by
          simp only [mExpr_ev, mCall_ev, mCons_ev, mVar_ev, mNil_ev, List.getElem?_cons_succ, List.getElem?_cons_zero, bind_ok, rz_ev hk.2 hq, thenS_exc]
        have he : nmK[j]? = some x := he
        refine seq_rtS ?_
        match j, he, hr with
        | 0, he, hr => cases he; rw [try_exc (hr _ _ rfl)]; rfl
        | 1, he, hr => cases he; rw [try_exc (hr _ _ rfl)]; rfl
        | 2, he, hr => cases he; rw [try_exc (hr _ _ rfl)]; rfl
        | 3, he, hr => cases he; rw [try_exc (hr _ _ rfl)]; rfl
        | 4, he, hr => cases he; rw [try_exc (hr _ _ rfl)]; rfl
        | 5, he, hr => cases he; rw [try_exc (hr _ _ rfl)]; rfl
        | 6, he, hr => cases he; rw [try_exc (hr _ _ rfl)]; rfl
        | 7, he, hr => cases he; rw [try_exc (hr _ _ rfl)]; rfl
        | 8, he, hr => cases he; rw [try_exc (hr _ _ rfl)]; rfl
        | 9, he, hr => cases he; rw [try_exc (hr _ _ rfl)]; rfl
        | n + 10, he, hr => cases he
      · trivial
    · trivial
  · trivial
theorem rowsE_bel {n : Nat} {R : D → Bool} {kind : List Nat} {rows : D} {kvs : List (Key × D)} {p : D} (hp : (rowsE R kind rows kvs).1 = some p) : D.bel n p := by
  unfold rowsE at hp
  split at hp
  · obtain ⟨j, _, rfl⟩ := Option.map_eq_some_iff.mp hp
    simp [D.belL]
  · cases hp
    simp [D.belL]
theorem chipE_bel {n : Nat} {nm i r w o p : D} (hp : chipE nm i r w o = some p) : D.bel n p := by
  unfold chipE at hp
  split at hp
  · cases hp
    simp [D.belL]
  · split at hp
    · rename_i q
      cases hp
      exact rowsE_bel q
    · split at hp
      · rename_i q
        cases hp
        exact rowsE_bel q
      · split at hp
        · rename_i q
          cases hp
          exact rowsE_bel q
        · exact rowsE_bel hp
theorem netE_bel {n : Nat} {i l a o p : D} (hp : netE i l a o = some p) : D.bel n p := by
  have rb : ∀ (kind : List Nat) (k : Option Nat) (r : Option D), (∀ p, r = some p → D.bel n p) → ∀ p, netR kind k r = some p → D.bel n p := by
    intro kind k r hr p hp
    unfold netR at hp
    split at hp
    · cases hp
      simp [D.belL]
    · exact hr p hp
  have nb : ∀ ks : List (List Nat × D), ∀ p, notT ks = some p → D.bel n p := by
    intro ks
    induction ks with
    | nil => intro p hp; cases hp
    | cons x ks ih =>
      intro p hp
      obtain ⟨k, d⟩ := x
      unfold notT at hp
      split at hp
      · exact ih p hp
      · cases hp
        simp [D.belL]
  unfold netE at hp
  split at hp
  · rename_i hq
    cases hp
    exact nb _ _ hq
  · exact rb _ _ _ (rb _ _ _ (rb _ _ _ (rb _ _ _ fun p hp => by cases hp))) p hp
theorem told_bel {n : Nat} {nm : List Nat} {r : Option D} (h : ∀ p, r = some p → D.bel n p) : D.bel n (toldX nm r) := by
  cases r with
  | none => simp [toldX]
  | some p => simp [toldX, D.belL, h p rfl]
abbrev hsC : List HCl := [("ChiptrueError", some 2, (retTx (pxs1 (pxF clX "name") (pxs1 (pxF clX "place") pxs0))))]
/-- the clause: name and place -/
theorem told_exc {c : String} {ns : List (List Nat)} {nm : List Nat} {p : D} {sd : Sl} {S : List Cell} (hc : (c = "InvalidTerm" ∧ ns = ns_InvalidTerm ∧ nm = cs "InvalidTerm") ∨ (c = "InvalidChip" ∧ ns = ns_InvalidChip ∧ nm = cs "InvalidChip") ∨ (c = "InvalidNet" ∧ ns = ns_InvalidNet ∧ nm = cs "InvalidNet")) (hl : sd.length = 3) :
    mHd tabX ⟨c, exFs ns p⟩ hsC sd S = .rt (.tup [.str nm, p]) S := by
  match sd, hl with
  | [a, b, e], _ =>
    rcases hc with ⟨rfl, rfl, rfl⟩ | ⟨rfl, rfl, rfl⟩ | ⟨rfl, rfl, rfl⟩ <;> rfl
theorem ret_non {sd : Sl} {S : List Cell} : mRet (mC .non) sd S = .rt .non S := rfl
/-- what a call told: the end of the body -/
theorem told_end {c : String} {ns : List (List Nat)} {nm : List Nat} {b : MS} {sd : Sl} {S S1 : List Cell} {r : Option D} (hc : (c = "InvalidTerm" ∧ ns = ns_InvalidTerm ∧ nm = cs "InvalidTerm") ∨ (c = "InvalidChip" ∧ ns = ns_InvalidChip ∧ nm = cs "InvalidChip") ∨ (c = "InvalidNet" ∧ ns = ns_InvalidNet ∧ nm = cs "InvalidNet")) (hl : sd.length = 3)
    (h : b sd S = match r with | none => .nx sd S1 | some p => .exc ⟨c, exFs ns p⟩ sd S1) : mSeq (mTry tabX b hsC) (mRet (mC .non)) sd S = .rt (toldX nm r) S1 := by
  cases r with
  | none =>
    rw [mSeq_ev, try_nx h]
    rfl
  | some p => exact seq_rtS ((try_exc h).trans (told_exc hc hl))
theorem ref_call (P0 : Addr) (ds : List D) (S : List Cell) (h : ds.length = 2) : RefR S (m__law_call P0 ds S) (b__law_call P0 (startD 3 ds) S) := by
  unfold m__law_call
  split
  · rename_i kind v
    split
    · rename_i hk
      have hst : startD 3 [D.str kind, v] = [some (.str kind), some v, none] := rfl
      rw [hst]
      unfold b__law_call
      unfold okC at hk
      unfold callE
      have hv : ∀ {l : List D} {j : Nat} {d : D}, v = .tup l → l[j]? = some d → ∀ S', (mBin oIxA (mVar 1) (mC (.int (j : Nat)))) [some (.str kind), some v, none] S' = .ok d S' := fun hv hj S' => by
        subst hv
        simp only [mBin_ev, mVar_ev, List.getElem?_cons_succ, List.getElem?_cons_zero, bind_ok, mC_ev, oIxA_tup, atI_nat', hj, optR_some]
      by_cases h1 : kind = cs "term"
      · rw [if_pos h1] at hk ⊢
        subst h1
        have e : (mIf (mTst (mBin oEq (mVar 0) (mC (.str (cs "term"))))) (mExpr (mCall m_check_term (mCons (mVar 1) mNil)))
            (mIf (mTst (mBin oEq (mVar 0) (mC (.str (cs "chip")))))
              (mExpr (mMake "Chip" m_Chip (mCons (mBin oIxA (mVar 1) (mC (.int 0))) (mCons (mBin oIxA (mVar 1) (mC (.int 1))) (mCons (mBin oIxA (mVar 1) (mC (.int 2))) (mCons (mBin oIxA (mVar 1) (mC (.int 3))) (mCons (mBin oIxA (mVar 1) (mC (.int 4))) mNil)))))))
              (mExpr (mMake "Net" (m_Net P0 q_Net 0) (mCons (mBin oIxA (mVar 1) (mC (.int 0))) (mCons (mBin oIxA (mVar 1) (mC (.int 1))) (mCons (mBin oIxA (mVar 1) (mC (.int 2))) (mCons (mBin oIxA (mVar 1) (mC (.int 3))) mNil))))))))
            [some (.str (cs "term")), some v, none] S = match (if isT 40 v = true then none else some D.non) with | none => .nx [some (.str (cs "term")), some v, none] S | some p => .exc ⟨"InvalidTerm", exFs ns_InvalidTerm p⟩ [some (.str (cs "term")), some v, none] S := by
          have et : (mTst (mBin oEq (mVar 0) (mC (.str (cs "term"))))) [some (.str (cs "term")), some v, none] S = .ok true S := tst_ok (bin_ok rfl rfl (eq_str rfl rfl))
          rw [mIf_ev, et]
          simp only [thenS_ok, if_true, mExpr_ev, mCall_ev, mCons_ev, mVar_ev, mNil_ev, List.getElem?_cons_succ, List.getElem?_cons_zero, bind_ok]
          unfold m_check_term
          simp only [hk, if_true]
          split <;> rfl
        refine ref_pure0 (told_bel fun p hp => ?_) (told_end (.inl ⟨rfl, rfl, rfl⟩) rfl e)
        split at hp
        · cases hp
        · cases hp; simp
      · rw [if_neg h1] at hk ⊢
        have ht1 : okT kind = true → (mTst (mBin oEq (mVar 0) (mC (.str (cs "term"))))) [some (.str kind), some v, none] S = .ok false S := fun hk => tst_ok (bin_ok rfl rfl ((eq_str hk rfl).trans (by rw [show (kind == cs "term") = false from by simpa using h1])))
        by_cases h2 : kind = cs "chip"
        · rw [if_pos h2] at hk ⊢
          subst h2
          match v, hk with
          | .tup [nm, i, r, w, o], hk =>
            simp only [Bool.and_eq_true] at hk
            obtain ⟨⟨⟨⟨k1, k2⟩, k3⟩, k4⟩, k5⟩ := hk
            have et : (mTst (mBin oEq (mVar 0) (mC (.str (cs "chip"))))) [some (.str (cs "chip")), some (.tup [nm, i, r, w, o]), none] S = .ok true S := tst_ok (bin_ok rfl rfl (eq_str rfl rfl))
            have em : m_Chip [.loc S.length, nm, i, r, w, o] (S ++ [.ins "Chip" []]) = match chipE nm i r w o with
                | some p => .exc (chipP p) (S ++ [.ins "Chip" []])
                | none => .ok .non (S ++ [.ins "Chip" [("name", nm), ("inputs", i), ("registers", r), ("wires", w), ("outputs", o)]]) := by
              unfold m_Chip
              have e0 : (S ++ [Cell.ins "Chip" []])[S.length]? = some (.ins "Chip" []) := by simp
              simp only [e0]
              rw [if_pos ⟨okv_app k1, okd_app k2, okd_app k3, okd_app k4, okd_app k5⟩]
              cases chipE nm i r w o <;> simp
            have hc := told_end (S1 := S ++ [.ins "Chip" (match chipE nm i r w o with | some p => [] | none => [("name", nm), ("inputs", i), ("registers", r), ("wires", w), ("outputs", o)])]) (c := "InvalidChip") (ns := ns_InvalidChip) (nm := cs "InvalidChip") (r := chipE nm i r w o) (.inr (.inl ⟨rfl, rfl, rfl⟩)) (sd := [some (.str (cs "chip")), some (.tup [nm, i, r, w, o]), none]) rfl
              (b := (mIf (mTst (mBin oEq (mVar 0) (mC (.str (cs "term"))))) (mExpr (mCall m_check_term (mCons (mVar 1) mNil)))
            (mIf (mTst (mBin oEq (mVar 0) (mC (.str (cs "chip")))))
              (mExpr (mMake "Chip" m_Chip (mCons (mBin oIxA (mVar 1) (mC (.int 0))) (mCons (mBin oIxA (mVar 1) (mC (.int 1))) (mCons (mBin oIxA (mVar 1) (mC (.int 2))) (mCons (mBin oIxA (mVar 1) (mC (.int 3))) (mCons (mBin oIxA (mVar 1) (mC (.int 4))) mNil)))))))
              (mExpr (mMake "Net" (m_Net P0 q_Net 0) (mCons (mBin oIxA (mVar 1) (mC (.int 0))) (mCons (mBin oIxA (mVar 1) (mC (.int 1))) (mCons (mBin oIxA (mVar 1) (mC (.int 2))) (mCons (mBin oIxA (mVar 1) (mC (.int 3))) mNil)))))))))
              (S := S) (by
                rw [mIf_ev, ht1 rfl]
                simp only [thenS_ok, Bool.false_eq_true, if_false]
                rw [mIf_ev, et]
                simp only [thenS_ok, if_true, mExpr_ev]
                have ea : (mCons (mBin oIxA (mVar 1) (mC (.int 0))) (mCons (mBin oIxA (mVar 1) (mC (.int 1))) (mCons (mBin oIxA (mVar 1) (mC (.int 2))) (mCons (mBin oIxA (mVar 1) (mC (.int 3))) (mCons (mBin oIxA (mVar 1) (mC (.int 4))) mNil))))) [some (.str (cs "chip")), some (.tup [nm, i, r, w, o]), none] S = .ok [nm, i, r, w, o] S := rfl
                unfold mMake
                rw [ea]
                simp only [bind_ok, em]
                cases chipE nm i r w o <;> rfl)
            exact ref_pure (told_bel fun p hp => chipE_bel hp) hc
        · rw [if_neg h2] at hk ⊢
          rw [Bool.and_eq_true, Bool.and_eq_true, decide_eq_true_eq] at hk
          obtain ⟨⟨h3, hk⟩, hP⟩ := hk
          subst h3
          match v, hk with
          | .tup [i, l, a, o], hk =>
            simp only [Bool.and_eq_true] at hk
            obtain ⟨⟨⟨k1, k2⟩, k3⟩, k4⟩ := hk
            have hS : S[0]? = some (.tab P0 q_Net) := by
              split at hP
              · rename_i P q e
                obtain ⟨rfl, rfl⟩ := of_decide_eq_true hP
                exact e
              · cases hP
            have hl0 := (List.getElem?_eq_some_iff.mp hS).1
            have et : (mTst (mBin oEq (mVar 0) (mC (.str (cs "chip"))))) [some (.str (cs "net")), some (.tup [i, l, a, o]), none] S = .ok false S := tst_ok (bin_ok rfl rfl (eq_str rfl rfl))
            have em : m_Net P0 q_Net 0 [.loc S.length, i, l, a, o] (S ++ [.ins "Net" []]) = match netE i l a o with
                | some p => .exc (netP p) (S ++ [.ins "Net" []])
                | none => .ok .non (S ++ [.ins "Net" [("inputs", i), ("latches", l), ("ands", a), ("outputs", o)]]) := by
              unfold m_Net
              have e0 : (S ++ [Cell.ins "Net" []])[S.length]? = some (.ins "Net" []) := by simp
              have e1 : (S ++ [Cell.ins "Net" []])[0]? = some (.tab P0 q_Net) := by rw [List.getElem?_append_left hl0]; exact hS
              simp only [e0, e1]
              rw [if_pos (by simp [okv_app k1, okv_app k2, okv_app k3, okv_app k4])]
              cases netE i l a o <;> simp
            have hc := told_end (S1 := S ++ [.ins "Net" (match netE i l a o with | some p => [] | none => [("inputs", i), ("latches", l), ("ands", a), ("outputs", o)])]) (c := "InvalidNet") (ns := ns_InvalidNet) (nm := cs "InvalidNet") (r := netE i l a o) (.inr (.inr ⟨rfl, rfl, rfl⟩)) (sd := [some (.str (cs "net")), some (.tup [i, l, a, o]), none]) rfl
              (b := (mIf (mTst (mBin oEq (mVar 0) (mC (.str (cs "term"))))) (mExpr (mCall m_check_term (mCons (mVar 1) mNil)))
            (mIf (mTst (mBin oEq (mVar 0) (mC (.str (cs "chip")))))
              (mExpr (mMake "Chip" m_Chip (mCons (mBin oIxA (mVar 1) (mC (.int 0))) (mCons (mBin oIxA (mVar 1) (mC (.int 1))) (mCons (mBin oIxA (mVar 1) (mC (.int 2))) (mCons (mBin oIxA (mVar 1) (mC (.int 3))) (mCons (mBin oIxA (mVar 1) (mC (.int 4))) mNil)))))))
              (mExpr (mMake "Net" (m_Net P0 q_Net 0) (mCons (mBin oIxA (mVar 1) (mC (.int 0))) (mCons (mBin oIxA (mVar 1) (mC (.int 1))) (mCons (mBin oIxA (mVar 1) (mC (.int 2))) (mCons (mBin oIxA (mVar 1) (mC (.int 3))) mNil)))))))))
              (S := S) (by
                rw [mIf_ev, ht1 rfl]
                simp only [thenS_ok, Bool.false_eq_true, if_false]
                rw [mIf_ev, et]
                simp only [thenS_ok, Bool.false_eq_true, if_false, mExpr_ev]
                have ea : (mCons (mBin oIxA (mVar 1) (mC (.int 0))) (mCons (mBin oIxA (mVar 1) (mC (.int 1))) (mCons (mBin oIxA (mVar 1) (mC (.int 2))) (mCons (mBin oIxA (mVar 1) (mC (.int 3))) mNil)))) [some (.str (cs "net")), some (.tup [i, l, a, o]), none] S = .ok [i, l, a, o] S := rfl
                unfold mMake
                rw [ea]
                simp only [bind_ok, em]
                cases netE i l a o <;> rfl)
            exact ref_pure (told_bel fun p hp => netE_bel hp) hc
    · trivial
  · trivial
end K00

namespace K00
open PySem PySem.Spec PyProof.Rows L2 Fx
/-! ### what the law makes, in plain Lean -/
def wds : List (List Nat) := [cs "a", cs "b_1", cs "ready"]
def wd (x : List Nat) : D := .tup [.str (cs "name"), .str x]
def goodL (w : D) : List D := [w, .tup [.str (cs "const"), .int 16, .int 65535], .tup [.str (cs "not"), w], .tup [.str (cs "add"), w, w], .tup [.str (cs "pick"), w, w, w], .tup [.str (cs "part"), w, .int 3, .int 0], .tup [.str (cs "join"), .tup [w, w]], .tup [.str (cs "odd"), w]]
def bad1 (w : D) : List D := [.tup [.str (cs "name"), .str (cs "A")], .tup [.str (cs "name"), .str (cs "when")], .tup [.str (cs "name"), .str (cs "")], .tup [.str (cs "const"), .int 2, .int 4], .tup [.str (cs "const"), .int 0, .int 0], .tup [.str (cs "const"), .int 17, .int 1], .tup [.str (cs "not"), w, w], .tup [.str (cs "add"), w]]
def bad2 (w : D) (j : Nat) : List D := [.tup [.str (cs "pick"), w, w], .tup [.str (cs "part"), w, .int 0, .int 1], .tup [.str (cs "join"), .tup [w]], .tup [.str (cs "join"), .loc j]]
def bad3 (w : D) (j : Nat) : List D := [.tup [.str (cs "part"), w, .bl true, .int 0], .tup [.str (cs "part"), w, .int (-1), .int (-2)], .non, .loc j, .tup [], .tup [.str (cs "other"), w], .tup [.str (cs "const"), .int 2, .bl true], .tup [.str (cs "name"), .int 1]]
def badL (w : D) (j1 j2 : Nat) : List D := bad1 w ++ bad2 w j1 ++ bad3 w j2
theorem good_ok {x : List Nat} (hx : x ∈ wds) : ∀ g ∈ goodL (wd x), isT 40 g = true ∧ dep g ≤ 5 ∧ ∀ S, okv S g = true := by
  simp only [wds, List.mem_cons, List.not_mem_nil, or_false] at hx
  rcases hx with rfl | rfl | rfl <;>
  · intro g hg
    simp only [goodL, List.mem_cons, List.not_mem_nil, or_false] at hg
    rcases hg with rfl | rfl | rfl | rfl | rfl | rfl | rfl | rfl <;> exact ⟨rfl, by decide, fun S => rfl⟩
theorem ok_join {S : List Cell} {j : Nat} (h : (cellL S j).isSome = true) : okv S (.tup [.str (cs "join"), .loc j]) = true := by
  have h : okv S (.loc j) = true := h
  rw [okv, okvL, okvL, okvL, h]
  rfl
theorem bad_ok {x : List Nat} (hx : x ∈ wds) {j1 j2 : Nat} : ∀ g ∈ badL (wd x) j1 j2, isT 40 g = false ∧ isT 39 g = false ∧ dep g ≤ 5 ∧ ∀ S, (cellL S j1).isSome = true → (cellL S j2).isSome = true → okv S g = true := by
  simp only [wds, List.mem_cons, List.not_mem_nil, or_false] at hx
  rcases hx with rfl | rfl | rfl <;>
  · intro g hg
    simp only [badL, bad1, bad2, bad3, List.mem_append, List.mem_cons, List.not_mem_nil, or_false] at hg
    rcases hg with (((rfl | rfl | rfl | rfl | rfl | rfl | rfl | rfl) | rfl | rfl | rfl | rfl) | rfl | rfl | rfl | rfl | rfl | rfl | rfl | rfl) <;>
    first
    | exact ⟨rfl, rfl, by decide, fun S _ _ => rfl⟩
    | exact ⟨rfl, rfl, Nat.le_of_ble_eq_true rfl, fun S _ h => h⟩
    | exact ⟨rfl, rfl, Nat.le_of_ble_eq_true rfl, fun S h _ => ok_join h⟩
/-! rows of a chip -/
def G0 : List D := [.tup [.str (cs "x"), .int 2], .tup [.str (cs "y"), .int 1]]
def G1 (one w : D) : List D := [.tup [.str (cs "r"), .int 2, .int 3, one, .non], .tup [.str (cs "s"), .int 1, .int 0, w, w]]
def G2 (one : D) : List D := [.tup [.str (cs "w"), one]]
def G3 (one w : D) : List D := [.tup [.str (cs "o"), w], .tup [.str (cs "p"), one]]
def kt (x : List Nat) : Key × D := (.inr (stS x), .bl true)
def Ks : Nat → List (Key × D)
  | 0 => []
  | 1 => [kt (cs "x"), kt (cs "y")]
  | 2 => [kt (cs "x"), kt (cs "y"), kt (cs "r"), kt (cs "s")]
  | 3 => []
  | _ => []
def Ke : Nat → List (Key × D)
  | 0 => [kt (cs "x"), kt (cs "y")]
  | 1 => [kt (cs "x"), kt (cs "y"), kt (cs "r"), kt (cs "s")]
  | 2 => [kt (cs "x"), kt (cs "y"), kt (cs "r"), kt (cs "s"), kt (cs "w")]
  | _ => [kt (cs "o"), kt (cs "p")]
def Rs : Nat → D → Bool
  | 0 => isInput
  | 1 => isRegister
  | _ => isNamed
def Gs (one w : D) : Nat → List D
  | 0 => G0
  | 1 => G1 one w
  | 2 => G2 one
  | _ => G3 one w
def kd : Nat → List Nat
  | 0 => cs "in"
  | 1 => cs "reg"
  | 2 => cs "wire"
  | _ => cs "out"
section
variable {one w : D} (T1 : isT 40 one = true) (T2 : isT 40 w = true)
include T1 T2
theorem g_go : ∀ a, a < 4 → rowsGo (Rs a) 0 (Gs one w a) (Ks a) = (none, Ke a) := by
  have i1 : isRegister (.tup [.str (cs "r"), .int 2, .int 3, one, .non]) = true := by
    show (isName (.str (cs "r")) && isWidth (.int 2) && isWord 2 (.int 3) && isT 40 one && (isNonD .non || isT 40 .non)) = true
    rw [T1]; rfl
  have i2 : isRegister (.tup [.str (cs "s"), .int 1, .int 0, w, w]) = true := by
    show (isName (.str (cs "s")) && isWidth (.int 1) && isWord 1 (.int 0) && isT 40 w && (isNonD w || isT 40 w)) = true
    rw [T2]
    simp only [Bool.or_true]
    rfl
  have i3 : isNamed (.tup [.str (cs "w"), one]) = true := by
    show (isName (.str (cs "w")) && isT 40 one) = true
    rw [T1]; rfl
  have i4 : isNamed (.tup [.str (cs "o"), w]) = true := by
    show (isName (.str (cs "o")) && isT 40 w) = true
    rw [T2]; rfl
  have i5 : isNamed (.tup [.str (cs "p"), one]) = true := by
    show (isName (.str (cs "p")) && isT 40 one) = true
    rw [T1]; rfl
  have step : ∀ {R : D → Bool} {k : Nat} {r : D} {rs : List D} {kvs : List (Key × D)}, R r = true → (getK kvs (.inr (stS (rowNm r)))).isSome = false → rowsGo R k (r :: rs) kvs = rowsGo R (k + 1) rs (putKD kvs (.inr (stS (rowNm r))) (.bl true)) := fun h1 h2 => by
    rw [rowsGo]
    rw [if_pos ⟨h1, h2⟩]
  intro a ha
  match a, ha with
  | 0, _ => rfl
  | 1, _ =>
    show rowsGo isRegister 0 (G1 one w) _ = _
    unfold G1
    rw [step i1 rfl, step i2 rfl]
    rfl
  | 2, _ =>
    show rowsGo isNamed 0 (G2 one) _ = _
    unfold G2
    rw [step i3 rfl]
    rfl
  | 3, _ =>
    show rowsGo isNamed 0 (G3 one w) _ = _
    unfold G3
    rw [step i4 rfl, step i5 rfl]
    rfl
theorem g_E (a : Nat) (ha : a < 4) : rowsE (Rs a) (kd a) (.tup (Gs one w a)) (Ks a) = (none, Ke a) := by
  unfold rowsE
  simp only
  rw [g_go T1 T2 a ha]
  rfl
/-- the rows of a chip, those of one kind put otherwise -/
def rowsW (one w : D) (a : Nat) (x : D) : List D := [.tup G0, .tup (G1 one w), .tup (G2 one), .tup (G3 one w)].set a x
theorem chip_good : callE (cs "chip") (.tup (.str (cs "c") :: [.tup G0, .tup (G1 one w), .tup (G2 one), .tup (G3 one w)])) = .non := by
  show toldX (cs "InvalidChip") (chipE (.str (cs "c")) (.tup G0) (.tup (G1 one w)) (.tup (G2 one)) (.tup (G3 one w))) = .non
  have e0 := g_E T1 T2 0 (by decide)
  have e1 := g_E T1 T2 1 (by decide)
  have e2 := g_E T1 T2 2 (by decide)
  have e3 := g_E T1 T2 3 (by decide)
  have e0 : rowsE isInput (cs "in") (.tup G0) [] = (none, Ks 1) := e0
  have e1 : rowsE isRegister (cs "reg") (.tup (G1 one w)) (Ks 1) = (none, Ks 2) := e1
  have e2 : rowsE isNamed (cs "wire") (.tup (G2 one)) (Ks 2) = (none, Ke 2) := e2
  have e3 : rowsE isNamed (cs "out") (.tup (G3 one w)) [] = (none, Ke 3) := e3
  unfold chipE
  rw [if_neg (by decide), e0]
  simp only [e1, e2, e3]
  rfl
theorem chip_bad {a : Nat} (ha : a < 4) {x p : D} (h : (rowsE (Rs a) (kd a) x (Ks a)).1 = some p) : callE (cs "chip") (.tup (.str (cs "c") :: rowsW one w a x)) = .tup [.str (cs "InvalidChip"), p] := by
  have e0 := g_E T1 T2 0 (by decide)
  have e1 := g_E T1 T2 1 (by decide)
  have e2 := g_E T1 T2 2 (by decide)
  have e0 : rowsE isInput (cs "in") (.tup G0) [] = (none, Ks 1) := e0
  have e1 : rowsE isRegister (cs "reg") (.tup (G1 one w)) (Ks 1) = (none, Ks 2) := e1
  have e2 : rowsE isNamed (cs "wire") (.tup (G2 one)) (Ks 2) = (none, Ke 2) := e2
  match a, ha with
  | 0, _ =>
    show toldX (cs "InvalidChip") (chipE (.str (cs "c")) x (.tup (G1 one w)) (.tup (G2 one)) (.tup (G3 one w))) = _
    have h : (rowsE isInput (cs "in") x []).1 = some p := h
    unfold chipE
    rw [if_neg (by decide), h]
    rfl
  | 1, _ =>
    show toldX (cs "InvalidChip") (chipE (.str (cs "c")) (.tup G0) x (.tup (G2 one)) (.tup (G3 one w))) = _
    have h : (rowsE isRegister (cs "reg") x (Ks 1)).1 = some p := h
    unfold chipE
    rw [if_neg (by decide), e0]
    simp only [h]
    rfl
  | 2, _ =>
    show toldX (cs "InvalidChip") (chipE (.str (cs "c")) (.tup G0) (.tup (G1 one w)) x (.tup (G3 one w))) = _
    have h : (rowsE isNamed (cs "wire") x (Ks 2)).1 = some p := h
    unfold chipE
    rw [if_neg (by decide), e0]
    simp only [e1, h]
    rfl
  | 3, _ =>
    show toldX (cs "InvalidChip") (chipE (.str (cs "c")) (.tup G0) (.tup (G1 one w)) (.tup (G2 one)) x) = _
    have h : (rowsE isNamed (cs "out") x []).1 = some p := h
    unfold chipE
    rw [if_neg (by decide), e0]
    simp only [e1, e2, h]
    rfl
theorem chip_C (l : List D) (hl : l.length = 4) : callE (cs "chip") (.tup (.str (cs "C") :: l)) = .tup [.str (cs "InvalidChip"), .tup [.str (cs "chip"), .int 0]] := by
  match l, hl with
  | [a, b, c, d], _ =>
    show toldX (cs "InvalidChip") (chipE (.str (cs "C")) a b c d) = _
    unfold chipE
    rw [if_pos (by decide)]
    rfl
theorem chip_spoilt {a s : Nat} (ha : a < 4) (hs : s ≤ (Gs one w a).length) {v : D} (hv : Rs a v = false) : callE (cs "chip") (.tup (.str (cs "c") :: rowsW one w a (.tup ((Gs one w a).take s ++ [v] ++ (Gs one w a).drop s)))) = .tup [.str (cs "InvalidChip"), .tup [.str (kd a), .int (s : Nat)]] := by
  refine chip_bad T1 T2 ha ?_
  unfold rowsE
  simp only
  rw [rowsGo_spoilt (by rw [g_go T1 T2 a ha]) hs hv]
  rfl
theorem chip_twice {a : Nat} (ha : a < 4) : callE (cs "chip") (.tup (.str (cs "c") :: rowsW one w a (.tup (Gs one w a ++ (Gs one w a).take 1)))) = .tup [.str (cs "InvalidChip"), .tup [.str (kd a), .int ((Gs one w a).length : Nat)]] := by
  refine chip_bad T1 T2 ha ?_
  unfold rowsE
  simp only
  have hg := g_go T1 T2 a ha
  have key : (rowsGo (Rs a) 0 (Gs one w a ++ (Gs one w a).take 1) (Ks a)).1 = some (0 + (Gs one w a).length) := by
    match a, ha, hg with
    | 0, _, hg => exact rowsGo_app (v := .tup [.str (cs "x"), .int 2]) (post := []) _ 0 _ (by rw [hg]) (fun _ => by rw [hg]; rfl)
    | 1, _, hg => exact rowsGo_app (v := .tup [.str (cs "r"), .int 2, .int 3, one, .non]) (post := []) _ 0 _ (by rw [hg]) (fun _ => by rw [hg]; rfl)
    | 2, _, hg => exact rowsGo_app (v := .tup [.str (cs "w"), one]) (post := []) _ 0 _ (by rw [hg]) (fun _ => by rw [hg]; rfl)
    | 3, _, hg => exact rowsGo_app (v := .tup [.str (cs "o"), w]) (post := []) _ 0 _ (by rw [hg]) (fun _ => by rw [hg]; rfl)
  rw [key, Nat.zero_add]
  rfl
theorem chip_loose {a j : Nat} (ha : a < 4) : callE (cs "chip") (.tup (.str (cs "c") :: rowsW one w a (.loc j))) = .tup [.str (cs "InvalidChip"), .tup [.str (kd a), .non]] :=
  chip_bad T1 T2 ha rfl
/-- what is put in -/
def wrongL (one odd : D) (j : Nat) : List D := [.tup [.str (cs "z"), odd], .non, .loc j, .tup [.str (cs "A"), one], .tup [.str (cs "z"), .int 17, .int 0, one, .non], .tup [.str (cs "z"), .int 2, .int 4, one, .non], .tup [.str (cs "z")], .tup [.str (cs "z"), .int 0]]
theorem wrong_bad {odd : D} (T3 : isT 40 odd = false) (T4 : isWidth odd = false) {j a : Nat} (ha : a < 4) : ∀ v ∈ wrongL one odd j, Rs a v = false := by
  intro v hv
  simp only [wrongL, List.mem_cons, List.not_mem_nil, or_false] at hv
  have n1 : isNamed (.tup [.str (cs "z"), odd]) = false := by
    show (isName (.str (cs "z")) && isT 40 odd) = false
    rw [T3]; rfl
  have n2 : isInput (.tup [.str (cs "z"), odd]) = false := by
    show (isName (.str (cs "z")) && isWidth odd) = false
    rw [T4]; rfl
  match a, ha with
  | 0, _ => rcases hv with rfl | rfl | rfl | rfl | rfl | rfl | rfl | rfl <;> first | exact n2 | rfl
  | 1, _ => rcases hv with rfl | rfl | rfl | rfl | rfl | rfl | rfl | rfl <;> rfl
  | 2, _ => rcases hv with rfl | rfl | rfl | rfl | rfl | rfl | rfl | rfl <;> first | exact n1 | rfl
  | 3, _ => rcases hv with rfl | rfl | rfl | rfl | rfl | rfl | rfl | rfl <;> first | exact n1 | rfl
end
theorem bad_w {x : List Nat} (hx : x ∈ wds) {j1 j2 : Nat} : ∀ g ∈ badL (wd x) j1 j2, isWidth g = false := by
  intro g hg
  simp only [badL, bad1, bad2, bad3, List.mem_append, List.mem_cons, List.not_mem_nil, or_false] at hg
  rcases hg with (((rfl | rfl | rfl | rfl | rfl | rfl | rfl | rfl) | rfl | rfl | rfl | rfl) | rfl | rfl | rfl | rfl | rfl | rfl | rfl | rfl) <;> rfl
/-! rows of a net -/
def N0 : List D := [.tup [.str (cs "x")], .tup [.tup [.str (cs "q"), .int 0, .int 7], .tup [.str (cs "p"), .int 1, .int 2]], .tup [.tup [.int 2, .int 5], .tup [.int 8, .int 3]], .tup [.tup [.str (cs "o"), .int 10]]]
def nkd : Nat → List Nat
  | 0 => cs "in"
  | 1 => cs "latch"
  | 2 => cs "and"
  | _ => cs "out"
def nwr (j : Nat) : Nat → List D
  | 0 => [.int 1, .non, .loc j]
  | 1 => [.tup [.str (cs "z"), .int 2, .int 0], .tup [.str (cs "z"), .int 0, .int 12], .non, .tup [.str (cs "z"), .int 0]]
  | 2 => [.tup [.int 8, .int 0], .tup [.int 0, .int 1000000000], .non, .tup [.int (-1), .int 0]]
  | _ => [.tup [.str (cs "z"), .int 99], .non, .tup [.str (cs "z")], .tup [.int 1, .int 0]]
theorem net_good : callE (cs "net") (.tup N0) = .non := rfl
theorem net_spoilt {a j : Nat} (ha : a < 4) : ∀ v ∈ nwr j a, callE (cs "net") (.tup (N0.take a ++ [.tup [v]] ++ N0.drop (a + 1))) = .tup [.str (cs "InvalidNet"), .tup [.str (nkd a), .int 0]] := by
  intro v hv
  match a, ha with
  | 0, _ =>
    simp only [nwr, List.mem_cons, List.not_mem_nil, or_false] at hv
    rcases hv with rfl | rfl | rfl <;> rfl
  | 1, _ =>
    simp only [nwr, List.mem_cons, List.not_mem_nil, or_false] at hv
    rcases hv with rfl | rfl | rfl | rfl <;> rfl
  | 2, _ =>
    simp only [nwr, List.mem_cons, List.not_mem_nil, or_false] at hv
    rcases hv with rfl | rfl | rfl | rfl <;> rfl
  | 3, _ =>
    simp only [nwr, List.mem_cons, List.not_mem_nil, or_false] at hv
    rcases hv with rfl | rfl | rfl | rfl <;> rfl
theorem net_loose {a j : Nat} (ha : a < 4) : callE (cs "net") (.tup (N0.take a ++ [.loc j] ++ N0.drop (a + 1))) = .tup [.str (cs "InvalidNet"), .tup [.str (nkd a), .non]] := by
  match a, ha with
  | 0, _ => rfl
  | 1, _ => rfl
  | 2, _ => rfl
  | 3, _ => rfl
end K00

namespace K00
open PySem PySem.Spec PyProof.Rows L2 Fx
/-! ### the law's body, in parts -/
def places (q : Int) : List D := [.int q, .tup [.str (cs "in"), .int 2], .non, .str (cs "a")]
theorem place_ok {q : Int} : ∀ p ∈ places q, (∀ S, okv S p = true) ∧ pln p = true ∧ dep p ≤ 1 := by
  intro p hp
  simp only [places, List.mem_cons, List.not_mem_nil, or_false] at hp
  rcases hp with rfl | rfl | rfl | rfl
  · exact ⟨fun S => rfl, rfl, Nat.le_of_ble_eq_true rfl⟩
  · exact ⟨fun S => rfl, rfl, Nat.le_of_ble_eq_true rfl⟩
  · exact ⟨fun S => rfl, rfl, Nat.le_of_ble_eq_true rfl⟩
  · exact ⟨fun S => rfl, rfl, Nat.le_of_ble_eq_true rfl⟩
theorem same_t {S : List Cell} {x y : D} (h : SameP S 30 x y) : m_same 30 [x, y] S = .ok (.bl true) S := m_same_ok h
section
variable {S : List Cell}
/-- the classes, one by one -/
theorem l_loop {x0 x1 x4 : Option D} {place : D} {nm : Nat} {T : Sl} (hn : S[nm]? = some (.lst (nmK.map D.str))) (hp : okv S place = true) (hq : pln place = true) (hd : dep place ≤ 1) :
    ∃ x4', (mFor (mRng1 (mCons (mC (.int 10)) mNil)) (gN 4)
      (mSeq (mIf (mOr (mTst (mBin oNe (mCall m__law_forwards (mCons (mVar 4) (mCons (mVar 2) mNil))) (mBin oIxA (mVar 3) (mVar 4)))) (mTst (mBin oNe (mCall m__law_backwards (mCons (mVar 4) (mCons (mVar 2) mNil))) (mBin oIxA (mVar 3) (mVar 4)))))
        (mRet (mC (.bl false)))
        mNext)
        (mIf (mNot (mTru (mCall (m_same 30) (mCons (mCall m__law_caught (mCons (mVar 4) (mCons (mVar 2) mNil))) (mCons (mTup (mCons (mVar 2) (mCons (mBin oIxA (mVar 3) (mVar 4)) mNil))) mNil)))))
        (mRet (mC (.bl false)))
        mNext))) (x0 :: x1 :: some place :: some (.loc nm) :: x4 :: T) S = .nx (x0 :: x1 :: some place :: some (.loc nm) :: x4' :: T) S := by
  have hc : c62 10 = true := by decide
  obtain ⟨sd', S', e, rfl, x4', rfl⟩ := forGo_rng (lo := 0) (n := 10) (g := gN 4) (b := (mSeq (mIf (mOr (mTst (mBin oNe (mCall m__law_forwards (mCons (mVar 4) (mCons (mVar 2) mNil))) (mBin oIxA (mVar 3) (mVar 4)))) (mTst (mBin oNe (mCall m__law_backwards (mCons (mVar 4) (mCons (mVar 2) mNil))) (mBin oIxA (mVar 3) (mVar 4)))))
        (mRet (mC (.bl false)))
        mNext)
        (mIf (mNot (mTru (mCall (m_same 30) (mCons (mCall m__law_caught (mCons (mVar 4) (mCons (mVar 2) mNil))) (mCons (mTup (mCons (mVar 2) (mCons (mBin oIxA (mVar 3) (mVar 4)) mNil))) mNil)))))
        (mRet (mC (.bl false)))
        mNext))) (S := S) (sd := x0 :: x1 :: some place :: some (.loc nm) :: x4 :: T) (fun _ sd Z => Z = S ∧ ∃ x4, sd = x0 :: x1 :: some place :: some (.loc nm) :: x4 :: T) (fun i sd Z hi ⟨hZ, y4, hsd⟩ => by
      subst hZ hsd
      refine ⟨_, _, _, _, rfl, ?_, rfl, some (.int (0 + (i : Nat))), rfl⟩
      rw [Int.zero_add]
      have hl : i < nmK.length := hi
      have eg : nmK[i]? = some nmK[i] := by simp [hl]
      have hx : okT nmK[i] = true := by
        have : ∀ x ∈ nmK, okT x = true := by decide
        exact this _ (List.getElem_mem hl)
      generalize nmK[i] = x at eg hx
      show mSeq _ _ (x0 :: x1 :: some place :: some (.loc nm) :: some (.int (i : Nat)) :: T) Z = _
      have ef : (mCall m__law_forwards (mCons (mVar 4) (mCons (mVar 2) mNil))) (x0 :: x1 :: some place :: some (.loc nm) :: some (.int (i : Nat)) :: T) Z = .ok (.str x) Z := by
        refine call' (ds := [.int (i : Nat), place]) rfl ?_
        unfold m__law_forwards
        simp only [hp, and_true, Int.natCast_nonneg, if_true, Int.toNat_natCast, eg]
      have ec : (mCall m__law_caught (mCons (mVar 4) (mCons (mVar 2) mNil))) (x0 :: x1 :: some place :: some (.loc nm) :: some (.int (i : Nat)) :: T) Z = .ok (.tup [place, .str x]) Z := by
        refine call' (ds := [.int (i : Nat), place]) rfl ?_
        unfold m__law_caught
        simp only [hp, and_true, Int.natCast_nonneg, if_true, Int.toNat_natCast, eg]
      have ei : (mBin oIxA (mVar 3) (mVar 4)) (x0 :: x1 :: some place :: some (.loc nm) :: some (.int (i : Nat)) :: T) Z = .ok (.str x) Z :=
        bin' (d := .loc nm) (e := .int (i : Nat)) rfl rfl (ixl hn (by rw [List.getElem?_map, eg]; rfl))
      have ne : ∀ {m : ME}, m (x0 :: x1 :: some place :: some (.loc nm) :: some (.int (i : Nat)) :: T) Z = .ok (.str x) Z → (mTst (mBin oNe m (mBin oIxA (mVar 3) (mVar 4)))) (x0 :: x1 :: some place :: some (.loc nm) :: some (.int (i : Nat)) :: T) Z = .ok false Z := fun h =>
        tst' (bin' h ei ((ne_str hx hx).trans (by simp)))
      have et : (mTup (mCons (mVar 2) (mCons (mBin oIxA (mVar 3) (mVar 4)) mNil))) (x0 :: x1 :: some place :: some (.loc nm) :: some (.int (i : Nat)) :: T) Z = .ok (.tup [place, .str x]) Z :=
        tup' (cons' (d := place) (S1 := Z) rfl (cons' ei nil')) (by simp)
      have es : (mNot (mTru (mCall (m_same 30) (mCons (mCall m__law_caught (mCons (mVar 4) (mCons (mVar 2) mNil))) (mCons (mTup (mCons (mVar 2) (mCons (mBin oIxA (mVar 3) (mVar 4)) mNil))) mNil))))) (x0 :: x1 :: some place :: some (.loc nm) :: some (.int (i : Nat)) :: T) Z = .ok false Z := by
        refine not' (b := true) (tru' (call' (cons' ec (cons' et nil')) (same_t ?_)))
        refine same_refl 30 _ ?_ ?_
        · rw [pln, plnL, plnL, plnL, hq, pln, hx]; rfl
        · have : dep (.tup [place, .str x]) = max (dep place) (max 0 0) + 1 := rfl
          omega
      exact (seq_nxS (if_f (or_f (ne ef) (ne ef)))).trans (if_f es)) ⟨rfl, x4, rfl⟩
  refine ⟨x4', ?_⟩
  simp only [mFor_ev, mRng1_ev, mCons_ev, mC_ev, mNil_ev, bind_ok, hc, if_true, thenS_ok]
  exact e
end
end K00

namespace K00
open PySem PySem.Spec PyProof.Rows L2 Fx
noncomputable abbrev lS1 (P0 : Addr) : MS := (mSet 1 (mCall m__law_start (mCons (mVar 0) mNil)))
noncomputable abbrev lS2 (P0 : Addr) : MS := (mSet 2 (mBin oIxA (mLst (mCons (mCall m__law_pick (mCons (mVar 1) (mCons (mC (.int 100)) mNil))) (mCons (mTup (mCons (mC (.str (cs "in"))) (mCons (mC (.int 2)) mNil))) (mCons (mC .non) (mCons (mC (.str (cs "a"))) mNil))))) (mCall m__law_pick (mCons (mVar 1) (mCons (mC (.int 4)) mNil)))))
noncomputable abbrev lS3 (P0 : Addr) : MS := (mSet 3 (mLst (mCons (mC (.str (cs "InvalidChip"))) (mCons (mC (.str (cs "InvalidGrid"))) (mCons (mC (.str (cs "InvalidLibrary"))) (mCons (mC (.str (cs "InvalidLog"))) (mCons (mC (.str (cs "InvalidMade"))) (mCons (mC (.str (cs "InvalidNet"))) (mCons (mC (.str (cs "InvalidTerm"))) (mCons (mC (.str (cs "InvalidText"))) (mCons (mC (.str (cs "TooLarge"))) (mCons (mC (.str (cs "ChiptrueError"))) mNil))))))))))))
noncomputable abbrev lS4 (P0 : Addr) : MS := (mFor (mRng1 (mCons (mC (.int 10)) mNil)) (gN 4)
  (mSeq (mIf (mOr (mTst (mBin oNe (mCall m__law_forwards (mCons (mVar 4) (mCons (mVar 2) mNil))) (mBin oIxA (mVar 3) (mVar 4)))) (mTst (mBin oNe (mCall m__law_backwards (mCons (mVar 4) (mCons (mVar 2) mNil))) (mBin oIxA (mVar 3) (mVar 4)))))
    (mRet (mC (.bl false)))
    mNext)
    (mIf (mNot (mTru (mCall (m_same 30) (mCons (mCall m__law_caught (mCons (mVar 4) (mCons (mVar 2) mNil))) (mCons (mTup (mCons (mVar 2) (mCons (mBin oIxA (mVar 3) (mVar 4)) mNil))) mNil)))))
    (mRet (mC (.bl false)))
    mNext)))
noncomputable abbrev lS5 (P0 : Addr) : MS := (mSet 5 (mTup (mCons (mC (.str (cs "name"))) (mCons (mBin oIxA (mTup (mCons (mC (.str (cs "a"))) (mCons (mC (.str (cs "b_1"))) (mCons (mC (.str (cs "ready"))) mNil)))) (mCall m__law_pick (mCons (mVar 1) (mCons (mC (.int 3)) mNil)))) mNil))))
noncomputable abbrev lS6 (P0 : Addr) : MS := (mSet 6 (mLst (mCons (mVar 5) (mCons (mTup (mCons (mC (.str (cs "const"))) (mCons (mC (.int 16)) (mCons (mC (.int 65535)) mNil)))) (mCons (mTup (mCons (mC (.str (cs "not"))) (mCons (mVar 5) mNil))) (mCons (mTup (mCons (mC (.str (cs "add"))) (mCons (mVar 5) (mCons (mVar 5) mNil)))) (mCons (mTup (mCons (mC (.str (cs "pick"))) (mCons (mVar 5) (mCons (mVar 5) (mCons (mVar 5) mNil))))) (mCons (mTup (mCons (mC (.str (cs "part"))) (mCons (mVar 5) (mCons (mC (.int 3)) (mCons (mC (.int 0)) mNil))))) (mCons (mTup (mCons (mC (.str (cs "join"))) (mCons (mTup (mCons (mVar 5) (mCons (mVar 5) mNil))) mNil))) (mCons (mTup (mCons (mC (.str (cs "odd"))) (mCons (mVar 5) mNil))) mNil))))))))))
noncomputable abbrev lS7 (P0 : Addr) : MS := (mSet 7 (mLst (mCons (mTup (mCons (mC (.str (cs "name"))) (mCons (mC (.str (cs "A"))) mNil))) (mCons (mTup (mCons (mC (.str (cs "name"))) (mCons (mC (.str (cs "when"))) mNil))) (mCons (mTup (mCons (mC (.str (cs "name"))) (mCons (mC (.str (cs ""))) mNil))) (mCons (mTup (mCons (mC (.str (cs "const"))) (mCons (mC (.int 2)) (mCons (mC (.int 4)) mNil)))) (mCons (mTup (mCons (mC (.str (cs "const"))) (mCons (mC (.int 0)) (mCons (mC (.int 0)) mNil)))) (mCons (mTup (mCons (mC (.str (cs "const"))) (mCons (mC (.int 17)) (mCons (mC (.int 1)) mNil)))) (mCons (mTup (mCons (mC (.str (cs "not"))) (mCons (mVar 5) (mCons (mVar 5) mNil)))) (mCons (mTup (mCons (mC (.str (cs "add"))) (mCons (mVar 5) mNil))) mNil))))))))))
noncomputable abbrev lS8 (P0 : Addr) : MS := (mSet 7 (mBin oAdd (mVar 7) (mLst (mCons (mTup (mCons (mC (.str (cs "pick"))) (mCons (mVar 5) (mCons (mVar 5) mNil)))) (mCons (mTup (mCons (mC (.str (cs "part"))) (mCons (mVar 5) (mCons (mC (.int 0)) (mCons (mC (.int 1)) mNil))))) (mCons (mTup (mCons (mC (.str (cs "join"))) (mCons (mTup (mCons (mVar 5) mNil)) mNil))) (mCons (mTup (mCons (mC (.str (cs "join"))) (mCons (mLst (mCons (mVar 5) (mCons (mVar 5) mNil))) mNil))) mNil)))))))
noncomputable abbrev lS9 (P0 : Addr) : MS := (mSet 7 (mBin oAdd (mVar 7) (mLst (mCons (mTup (mCons (mC (.str (cs "part"))) (mCons (mVar 5) (mCons (mC (.bl true)) (mCons (mC (.int 0)) mNil))))) (mCons (mTup (mCons (mC (.str (cs "part"))) (mCons (mVar 5) (mCons (mNeg (mC (.int 1))) (mCons (mNeg (mC (.int 2))) mNil))))) (mCons (mC .non) (mCons (mLst (mCons (mC (.str (cs "not"))) (mCons (mVar 5) mNil))) (mCons (mTup mNil) (mCons (mTup (mCons (mC (.str (cs "other"))) (mCons (mVar 5) mNil))) (mCons (mTup (mCons (mC (.str (cs "const"))) (mCons (mC (.int 2)) (mCons (mC (.bl true)) mNil)))) (mCons (mTup (mCons (mC (.str (cs "name"))) (mCons (mC (.int 1)) mNil))) mNil)))))))))))
noncomputable abbrev lS10 (P0 : Addr) : MS := (mPar 8 9 (mCons (mBin oIxA (mVar 6) (mCall m__law_pick (mCons (mVar 1) (mCons (mC (.int 8)) mNil)))) (mCons (mBin oIxA (mVar 7) (mCall m__law_pick (mCons (mVar 1) (mCons (mC (.int 20)) mNil)))) mNil)))
noncomputable abbrev lS11 (P0 : Addr) : MS := (mIf (mOr (mTst (mBin oNotN (mCall (m__law_call P0) (mCons (mC (.str (cs "term"))) (mCons (mVar 8) mNil))) (mC .non))) (mOr (mNot (mTru (mCall (m_same 30) (mCons (mCall (m__law_call P0) (mCons (mC (.str (cs "term"))) (mCons (mVar 9) mNil))) (mCons (mTup (mCons (mC (.str (cs "InvalidTerm"))) (mCons (mC .non) mNil))) mNil))))) (mNot (mTru (mCall (m_same 30) (mCons (mCall (m__law_call P0) (mCons (mC (.str (cs "term"))) (mCons (mTup (mCons (mC (.str (cs "not"))) (mCons (mVar 9) mNil))) mNil))) (mCons (mTup (mCons (mC (.str (cs "InvalidTerm"))) (mCons (mC .non) mNil))) mNil)))))))
  (mRet (mC (.bl false)))
  mNext)
noncomputable abbrev lS12 (P0 : Addr) : MS := (mSet 10 (mTup (mCons (mLst (mCons (mTup (mCons (mC (.str (cs "x"))) (mCons (mC (.int 2)) mNil))) (mCons (mTup (mCons (mC (.str (cs "y"))) (mCons (mC (.int 1)) mNil))) mNil))) (mCons (mLst (mCons (mTup (mCons (mC (.str (cs "r"))) (mCons (mC (.int 2)) (mCons (mC (.int 3)) (mCons (mVar 8) (mCons (mC .non) mNil)))))) (mCons (mTup (mCons (mC (.str (cs "s"))) (mCons (mC (.int 1)) (mCons (mC (.int 0)) (mCons (mVar 5) (mCons (mVar 5) mNil)))))) mNil))) (mCons (mLst (mCons (mTup (mCons (mC (.str (cs "w"))) (mCons (mVar 8) mNil))) mNil)) (mCons (mLst (mCons (mTup (mCons (mC (.str (cs "o"))) (mCons (mVar 5) mNil))) (mCons (mTup (mCons (mC (.str (cs "p"))) (mCons (mVar 8) mNil))) mNil))) mNil))))))
noncomputable abbrev lS13 (P0 : Addr) : MS := (mPar 11 12 (mCons (mTup (mCons (mC (.str (cs "in"))) (mCons (mC (.str (cs "reg"))) (mCons (mC (.str (cs "wire"))) (mCons (mC (.str (cs "out"))) mNil))))) (mCons (mLst (mCons (mTup (mCons (mC (.str (cs "z"))) (mCons (mVar 9) mNil))) (mCons (mC .non) (mCons (mLst (mCons (mC (.str (cs "z"))) (mCons (mVar 8) mNil))) (mCons (mTup (mCons (mC (.str (cs "A"))) (mCons (mVar 8) mNil))) (mCons (mTup (mCons (mC (.str (cs "z"))) (mCons (mC (.int 17)) (mCons (mC (.int 0)) (mCons (mVar 8) (mCons (mC .non) mNil)))))) (mCons (mTup (mCons (mC (.str (cs "z"))) (mCons (mC (.int 2)) (mCons (mC (.int 4)) (mCons (mVar 8) (mCons (mC .non) mNil)))))) (mCons (mTup (mCons (mC (.str (cs "z"))) mNil)) (mCons (mTup (mCons (mC (.str (cs "z"))) (mCons (mC (.int 0)) mNil))) mNil))))))))) mNil)))
noncomputable abbrev lS14 (P0 : Addr) : MS := (mIf (mTst (mBin oNotN (mCall (m__law_call P0) (mCons (mC (.str (cs "chip"))) (mCons (mBin oAdd (mTup (mCons (mC (.str (cs "c"))) mNil)) (mF oTupF (mLc (mSeqI (mVar 10)) [20] (gN 20) mYes (mB oTupC (mCons (mVar 20) mNil))))) mNil))) (mC .non)))
  (mRet (mC (.bl false)))
  mNext)
noncomputable abbrev lS15 (P0 : Addr) : MS := (mSet 13 (mCall m__law_pick (mCons (mVar 1) (mCons (mC (.int 4)) mNil))))
noncomputable abbrev lS16 (P0 : Addr) : MS := (mSet 14 (mCall m__law_pick (mCons (mVar 1) (mCons (mBin oAdd (mB oLenA (mCons (mBin oIxA (mVar 10) (mVar 13)) mNil)) (mC (.int 1))) mNil))))
noncomputable abbrev lS17 (P0 : Addr) : MS := (mSet 15 (mBin oIxA (mVar 12) (mCall m__law_pick (mCons (mVar 1) (mCons (mC (.int 8)) mNil)))))
noncomputable abbrev lS18 (P0 : Addr) : MS := (mSet 16 (mFresh (mLc (mSeqI (mVar 10)) [20] (gN 20) mYes (mB oTupC (mCons (mVar 20) mNil)))))
noncomputable abbrev lS19 (P0 : Addr) : MS := (mAsg (gSubA (mVar 16) (mVar 13)) (mBin oAdd (mBin oAdd (mSlice (mBin oIxA (mVar 16) (mVar 13)) mNoPart (mPart (mVar 14))) (mTup (mCons (mVar 15) mNil))) (mSlice (mBin oIxA (mVar 16) (mVar 13)) (mPart (mVar 14)) mNoPart)))
noncomputable abbrev lS20 (P0 : Addr) : MS := (mSet 17 (mFresh (mLc (mSeqI (mVar 10)) [20] (gN 20) mYes (mB oTupC (mCons (mVar 20) mNil)))))
noncomputable abbrev lS21 (P0 : Addr) : MS := (mAsg (gSubA (mVar 17) (mVar 13)) (mBin oAdd (mBin oIxA (mVar 17) (mVar 13)) (mSlice (mBin oIxA (mVar 17) (mVar 13)) mNoPart (mPart (mC (.int 1))))))
noncomputable abbrev lS22 (P0 : Addr) : MS := (mSet 18 (mFresh (mLc (mSeqI (mVar 10)) [20] (gN 20) mYes (mB oTupC (mCons (mVar 20) mNil)))))
noncomputable abbrev lS23 (P0 : Addr) : MS := (mAsg (gSubA (mVar 18) (mVar 13)) (mB oListC (mCons (mBin oIxA (mVar 18) (mVar 13)) mNil)))
noncomputable abbrev lS24 (P0 : Addr) : MS := (mSet 19 (mLst (mCons (mCall (m__law_call P0) (mCons (mC (.str (cs "chip"))) (mCons (mBin oAdd (mTup (mCons (mC (.str (cs "c"))) mNil)) (mB oTupC (mCons (mVar 16) mNil))) mNil))) (mCons (mCall (m__law_call P0) (mCons (mC (.str (cs "chip"))) (mCons (mBin oAdd (mTup (mCons (mC (.str (cs "c"))) mNil)) (mB oTupC (mCons (mVar 17) mNil))) mNil))) (mCons (mCall (m__law_call P0) (mCons (mC (.str (cs "chip"))) (mCons (mBin oAdd (mTup (mCons (mC (.str (cs "c"))) mNil)) (mB oTupC (mCons (mVar 18) mNil))) mNil))) (mCons (mCall (m__law_call P0) (mCons (mC (.str (cs "chip"))) (mCons (mBin oAdd (mTup (mCons (mC (.str (cs "C"))) mNil)) (mB oTupC (mCons (mVar 18) mNil))) mNil))) mNil))))))
noncomputable abbrev lS25 (P0 : Addr) : MS := (mIf (mNot (mTru (mCall (m_same 30) (mCons (mVar 19) (mCons (mLst (mCons (mTup (mCons (mC (.str (cs "InvalidChip"))) (mCons (mTup (mCons (mBin oIxA (mVar 11) (mVar 13)) (mCons (mVar 14) mNil))) mNil))) (mCons (mTup (mCons (mC (.str (cs "InvalidChip"))) (mCons (mTup (mCons (mBin oIxA (mVar 11) (mVar 13)) (mCons (mB oLenA (mCons (mBin oIxA (mVar 10) (mVar 13)) mNil)) mNil))) mNil))) (mCons (mTup (mCons (mC (.str (cs "InvalidChip"))) (mCons (mTup (mCons (mBin oIxA (mVar 11) (mVar 13)) (mCons (mC .non) mNil))) mNil))) (mCons (mTup (mCons (mC (.str (cs "InvalidChip"))) (mCons (mTup (mCons (mC (.str (cs "chip"))) (mCons (mC (.int 0)) mNil))) mNil))) mNil))))) mNil)))))
  (mRet (mC (.bl false)))
  mNext)
noncomputable abbrev lS26 (P0 : Addr) : MS := (mSet 10 (mTup (mCons (mTup (mCons (mC (.str (cs "x"))) mNil)) (mCons (mTup (mCons (mTup (mCons (mC (.str (cs "q"))) (mCons (mC (.int 0)) (mCons (mC (.int 7)) mNil)))) (mCons (mTup (mCons (mC (.str (cs "p"))) (mCons (mC (.int 1)) (mCons (mC (.int 2)) mNil)))) mNil))) (mCons (mTup (mCons (mTup (mCons (mC (.int 2)) (mCons (mC (.int 5)) mNil))) (mCons (mTup (mCons (mC (.int 8)) (mCons (mC (.int 3)) mNil))) mNil))) (mCons (mTup (mCons (mTup (mCons (mC (.str (cs "o"))) (mCons (mC (.int 10)) mNil))) mNil)) mNil))))))
noncomputable abbrev lS27 (P0 : Addr) : MS := (mPar 11 12 (mCons (mTup (mCons (mC (.str (cs "in"))) (mCons (mC (.str (cs "latch"))) (mCons (mC (.str (cs "and"))) (mCons (mC (.str (cs "out"))) mNil))))) (mCons (mLst (mCons (mTup (mCons (mC (.int 1)) (mCons (mC .non) (mCons (mLst (mCons (mC (.str (cs "x"))) mNil)) mNil)))) (mCons (mTup (mCons (mTup (mCons (mC (.str (cs "z"))) (mCons (mC (.int 2)) (mCons (mC (.int 0)) mNil)))) (mCons (mTup (mCons (mC (.str (cs "z"))) (mCons (mC (.int 0)) (mCons (mC (.int 12)) mNil)))) (mCons (mC .non) (mCons (mTup (mCons (mC (.str (cs "z"))) (mCons (mC (.int 0)) mNil))) mNil))))) (mCons (mTup (mCons (mTup (mCons (mC (.int 8)) (mCons (mC (.int 0)) mNil))) (mCons (mTup (mCons (mC (.int 0)) (mCons (mBin oPow (mC (.int 10)) (mC (.int 9))) mNil))) (mCons (mC .non) (mCons (mTup (mCons (mNeg (mC (.int 1))) (mCons (mC (.int 0)) mNil))) mNil))))) (mCons (mTup (mCons (mTup (mCons (mC (.str (cs "z"))) (mCons (mC (.int 99)) mNil))) (mCons (mC .non) (mCons (mTup (mCons (mC (.str (cs "z"))) mNil)) (mCons (mTup (mCons (mC (.int 1)) (mCons (mC (.int 0)) mNil))) mNil))))) mNil))))) mNil)))
noncomputable abbrev lS28 (P0 : Addr) : MS := (mIf (mTst (mBin oNotN (mCall (m__law_call P0) (mCons (mC (.str (cs "net"))) (mCons (mVar 10) mNil))) (mC .non)))
  (mRet (mC (.bl false)))
  mNext)
noncomputable abbrev lS29 (P0 : Addr) : MS := (mSet 13 (mCall m__law_pick (mCons (mVar 1) (mCons (mC (.int 4)) mNil))))
noncomputable abbrev lS30 (P0 : Addr) : MS := (mSet 15 (mBin oIxA (mBin oIxA (mVar 12) (mVar 13)) (mCall m__law_pick (mCons (mVar 1) (mCons (mB oLenA (mCons (mBin oIxA (mVar 12) (mVar 13)) mNil)) mNil)))))
noncomputable abbrev lS31 (P0 : Addr) : MS := (mSet 16 (mBin oAdd (mBin oAdd (mSlice (mVar 10) mNoPart (mPart (mVar 13))) (mTup (mCons (mTup (mCons (mVar 15) mNil)) mNil))) (mSlice (mVar 10) (mPart (mBin oAdd (mVar 13) (mC (.int 1)))) mNoPart)))
noncomputable abbrev lS32 (P0 : Addr) : MS := (mSet 19 (mLst (mCons (mCall (m__law_call P0) (mCons (mC (.str (cs "net"))) (mCons (mVar 16) mNil))) (mCons (mCall (m__law_call P0) (mCons (mC (.str (cs "net"))) (mCons (mBin oAdd (mBin oAdd (mSlice (mVar 10) mNoPart (mPart (mVar 13))) (mTup (mCons (mB oListC (mCons (mBin oIxA (mVar 10) (mVar 13)) mNil)) mNil))) (mSlice (mVar 10) (mPart (mBin oAdd (mVar 13) (mC (.int 1)))) mNoPart)) mNil))) mNil))))
noncomputable abbrev lS33 (P0 : Addr) : MS := (mRet (mCall (m_same 30) (mCons (mVar 19) (mCons (mLst (mCons (mTup (mCons (mC (.str (cs "InvalidNet"))) (mCons (mTup (mCons (mBin oIxA (mVar 11) (mVar 13)) (mCons (mC (.int 0)) mNil))) mNil))) (mCons (mTup (mCons (mC (.str (cs "InvalidNet"))) (mCons (mTup (mCons (mBin oIxA (mVar 11) (mVar 13)) (mCons (mC .non) mNil))) mNil))) mNil))) mNil))))
theorem law_eq (P0 : Addr) : b_law P0 = mSeq (lS1 P0) (mSeq (lS2 P0) (mSeq (lS3 P0) (mSeq (lS4 P0) (mSeq (lS5 P0) (mSeq (lS6 P0) (mSeq (lS7 P0) (mSeq (lS8 P0) (mSeq (lS9 P0) (mSeq (lS10 P0) (mSeq (lS11 P0) (mSeq (lS12 P0) (mSeq (lS13 P0) (mSeq (lS14 P0) (mSeq (lS15 P0) (mSeq (lS16 P0) (mSeq (lS17 P0) (mSeq (lS18 P0) (mSeq (lS19 P0) (mSeq (lS20 P0) (mSeq (lS21 P0) (mSeq (lS22 P0) (mSeq (lS23 P0) (mSeq (lS24 P0) (mSeq (lS25 P0) (mSeq (lS26 P0) (mSeq (lS27 P0) (mSeq (lS28 P0) (mSeq (lS29 P0) (mSeq (lS30 P0) (mSeq (lS31 P0) (mSeq (lS32 P0) (lS33 P0)))))))))))))))))))))))))))))))) := by
  unfold b_law
  rfl
end K00

namespace K00
open PySem PySem.Spec PyProof.Rows L2 Fx
abbrev s21 (x0 x1 x2 x3 x4 x5 x6 x7 x8 x9 x10 x11 x12 x13 x14 x15 x16 x17 x18 x19 x20 : Option D) : Sl := [x0, x1, x2, x3, x4, x5, x6, x7, x8, x9, x10, x11, x12, x13, x14, x15, x16, x17, x18, x19, x20]
/-- looked at, whatever the state holds -/
def okR (B : List Cell) (c : D) (R : List Cell) (d : D) : Prop := ∀ st, okv (bT B c st R) d = true
theorem okR.app {B : List Cell} {c : D} {R X : List Cell} {d : D} (h : okR B c R d) : okR B c (R ++ X) d := fun st => okv_le (LstLe.bT (fun n hn => LstLe.app n hn)) (h st)
theorem okR.set {B : List Cell} {c : D} {R : List Cell} {i : Nat} {ys : List D} {d : D} (h : okR B c R d) : okR B c (R.set i (.lst ys)) d := fun st => okv_le (LstLe.bT (fun n hn => by
  obtain ⟨xs, hx⟩ := Option.isSome_iff_exists.mp hn
  have hx' := cellL_get hx
  have hl := (List.getElem?_eq_some_iff.mp hx').1
  unfold cellL
  by_cases h : i = n
  · subst h
    rw [List.getElem?_set_self hl]
    rfl
  · rw [List.getElem?_set_ne h, hx']
    rfl)) (h st)
theorem okR.loc {B : List Cell} {c : D} {R : List Cell} {m : Nat} {xs : List D} (h : atR B R m (.lst xs)) : okR B c R (.loc m) := fun st => by
  rw [okv]
  unfold cellL
  rw [h.get]
  rfl
/-- a numeral drawn -/
theorem nat_of {i : Int} {n : Nat} (h0 : 0 ≤ i) (h1 : i < n) : ∃ k : Nat, i = (k : Int) ∧ k < n := ⟨i.toNat, by omega, by omega⟩
theorem add_lst {B : List Cell} {c : D} {st : Tp} {R : List Cell} {m n : Nat} {xs ys : List D} (h1 : atR B R m (.lst xs)) (h2 : atR B R n (.lst ys)) (hz : xs.length + ys.length ≤ 1000) : oAdd (.loc m) (.loc n) (bT B c st R) = .ok (.loc (B.length + 1 + R.length)) (bT B c st (R ++ [Cell.lst (xs ++ ys)])) := by
  have : xs.length + ys.length ≤ sizeLine := line_le (by omega)
  have e1 : mlst (bT B c st R) m = some xs := by rw [mlst_ev, h1.get]
  have e2 : mlst (bT B c st R) n = some ys := by rw [mlst_ev, h2.get]
  unfold oAdd
  simp only [e1, e2, this, if_true, bT_len, bT_app]
section
variable {P0 : Addr} {B : List Cell} {c d : D} {ns : List Int}
theorem stA {rest : MS} (hs : scrOk B c ns) (k : ∀ x2 x3 x4 x st R, okS st → x ∈ wds → ∃ J, rest (s21 (some c) (some (.loc B.length)) x2 x3 x4 (some (wd x)) none none none none none none none none none none none none none none none) (bT B c st R) = .rt d (B ++ J)) :
    ∃ J, mSeq (lS1 P0) (mSeq (lS2 P0) (mSeq (lS3 P0) (mSeq (lS4 P0) (mSeq (lS5 P0) rest)))) (startD 21 [c]) B = .rt d (B ++ J) := by
  have o0 : okS (0, 0, 7) := ⟨by decide, by decide, by decide⟩
  refine seq_exB (sd1 := s21 (some c) (some (.loc B.length)) none none none none none none none none none none none none none none none none none none none) (S1 := bT B c (0, 0, 7) []) (set' (call' (ds := [c]) (S1 := B) rfl (m_st hs))) ?_
  obtain ⟨q0, q1, o1⟩ := pk_ok (ns := ns) (lim := 100) (by decide) o0
  have e1 := fun sd h1 => c_pk (R := []) (sd := sd) (ml := mC (.int 100)) hs o0 (by decide) (by decide) h1 rfl
  generalize (pk ns (0, 0, 7) 100).1 = q at q0 q1 e1
  generalize (pk ns (0, 0, 7) 100).2 = st1 at o1 e1
  obtain ⟨v0, v1, o2⟩ := pk_ok (ns := ns) (lim := 4) (by decide) o1
  have e2 := fun R sd h1 => c_pk (R := R) (sd := sd) (ml := mC (.int 4)) hs o1 (by decide) (by decide) h1 rfl
  generalize (pk ns st1 4).1 = v at v0 v1 e2
  generalize (pk ns st1 4).2 = st2 at o2 e2
  obtain ⟨i, rfl, hi⟩ := nat_of (n := 4) v0 v1
  have hl : i < (places q).length := hi
  have ep : (places q)[i]? = some (places q)[i] := by simp [hl]
  obtain ⟨p1, p2, p3⟩ := place_ok (q := q) _ (List.getElem_mem hl)
  generalize (places q)[i] = place at ep p1 p2 p3
  refine seq_exB (sd1 := s21 (some c) (some (.loc B.length)) (some place) none none none none none none none none none none none none none none none none none none) (S1 := bT B c st2 ([] ++ [Cell.lst (places q)])) ?_ ?_
  · refine set' (bin' (mk_lst (st := st1) (R := []) (ds := places q) (cons' (e1 _ rfl) ?_) (by simp [places])) (e2 _ _ rfl) (ixl (atR.get (atR.new 0 rfl)) ep))
    rfl
  generalize ([] ++ [Cell.lst (places q)]) = R1
  refine seq_exB (sd1 := s21 (some c) (some (.loc B.length)) (some place) (some (.loc (B.length + 1 + R1.length))) none none none none none none none none none none none none none none none none none) (S1 := bT B c st2 (R1 ++ [Cell.lst (nmK.map D.str)])) (set' (mk_lst (ds := nmK.map D.str) rfl (by decide))) ?_
  have hn : atR B (R1 ++ [Cell.lst (nmK.map D.str)]) (B.length + 1 + R1.length) (.lst (nmK.map D.str)) := atR.new 0 rfl
  generalize R1 ++ [Cell.lst (nmK.map D.str)] = R2 at hn
  obtain ⟨x4, e4⟩ := l_loop (S := bT B c st2 R2) (x0 := some c) (x1 := some (.loc B.length)) (x4 := none) (T := [none, none, none, none, none, none, none, none, none, none, none, none, none, none, none, none]) (place := place) hn.get (p1 _) p2 p3
  refine seq_exB e4 ?_
  obtain ⟨w0, w1, o3⟩ := pk_ok (ns := ns) (lim := 3) (by decide) o2
  have e5 := fun sd h1 => c_pk (R := R2) (sd := sd) (ml := mC (.int 3)) hs o2 (by decide) (by decide) h1 rfl
  generalize (pk ns st2 3).1 = y at w0 w1 e5
  generalize (pk ns st2 3).2 = st3 at o3 e5
  obtain ⟨j, rfl, hj⟩ := nat_of (n := 3) w0 w1
  have hl : j < wds.length := hj
  have ew : (wds.map D.str)[j]? = some (.str wds[j]) := by simp [hl]
  have hw := List.getElem_mem hl
  generalize wds[j] = x at ew hw
  refine seq_exB (sd1 := s21 (some c) (some (.loc B.length)) (some place) (some (.loc (B.length + 1 + R1.length))) x4 (some (wd x)) none none none none none none none none none none none none none none none) (S1 := bT B c st3 R2) ?_ (k _ _ _ _ _ _ o3 hw)
  refine set' (tup' (ds := [.str (cs "name"), .str x]) (cons' (S1 := bT B c st2 R2) rfl (cons' (bin' (d := .tup (wds.map D.str)) (S1 := bT B c st2 R2) rfl (e5 _ rfl) (ixt ew)) nil')) (by simp))
theorem stB {rest : MS} {x : List Nat} {x2 x3 x4 : Option D} {st : Tp} {R : List Cell} (hs : scrOk B c ns) (o : okS st) (hx : x ∈ wds)
    (k : ∀ x6 x7 one odd st R, okS st → isT 40 one = true → (∀ S, okv S one = true) → dep one ≤ 5 → isT 40 odd = false → isT 39 odd = false → isWidth odd = false → dep odd ≤ 5 → okR B c R odd →
      ∃ J, rest (s21 (some c) (some (.loc B.length)) x2 x3 x4 (some (wd x)) x6 x7 (some one) (some odd) none none none none none none none none none none none) (bT B c st R) = .rt d (B ++ J)) :
    ∃ J, mSeq (lS6 P0) (mSeq (lS7 P0) (mSeq (lS8 P0) (mSeq (lS9 P0) (mSeq (lS10 P0) rest)))) (s21 (some c) (some (.loc B.length)) x2 x3 x4 (some (wd x)) none none none none none none none none none none none none none none none) (bT B c st R) = .rt d (B ++ J) := by
  refine seq_exB (sd1 := s21 (some c) (some (.loc B.length)) x2 x3 x4 (some (wd x)) (some (.loc (B.length + 1 + R.length))) none none none none none none none none none none none none none none) (S1 := bT B c st (R ++ [Cell.lst (goodL (wd x))])) (set' (mk_lst (ds := goodL (wd x)) rfl (by simp [goodL]))) ?_
  have a6 : atR B (R ++ [Cell.lst (goodL (wd x))]) (B.length + 1 + R.length) (.lst (goodL (wd x))) := atR.new 0 rfl
  generalize R ++ [Cell.lst (goodL (wd x))] = R1 at a6
  refine seq_exB (sd1 := s21 (some c) (some (.loc B.length)) x2 x3 x4 (some (wd x)) (some (.loc (B.length + 1 + R.length))) (some (.loc (B.length + 1 + R1.length))) none none none none none none none none none none none none none) (S1 := bT B c st (R1 ++ [Cell.lst (bad1 (wd x))])) (set' (mk_lst (ds := bad1 (wd x)) rfl (by simp [bad1]))) ?_
  have a7 : atR B (R1 ++ [Cell.lst (bad1 (wd x))]) (B.length + 1 + R1.length) (.lst (bad1 (wd x))) := atR.new 0 rfl
  replace a6 := a6.app (X := [Cell.lst (bad1 (wd x))])
  generalize hR2 : R1 ++ [Cell.lst (bad1 (wd x))] = R2 at a6 a7
  generalize B.length + 1 + R1.length = m7 at a7
  generalize B.length + 1 + R.length = m6 at a6
  generalize hsd : s21 (some c) (some (.loc B.length)) x2 x3 x4 (some (wd x)) (some (.loc m6)) (some (.loc m7)) none none none none none none none none none none none none none = sd
  have h5 : sd[5]? = some (some (wd x)) := by rw [← hsd]; rfl
  have h7 : sd[7]? = some (some (.loc m7)) := by rw [← hsd]; rfl
  have e8 : lS8 P0 sd (bT B c st R2) = .nx (sd.set 7 (some (.loc (B.length + 1 + (R2 ++ [Cell.lst [wd x, wd x]] ++ [Cell.lst (bad2 (wd x) (B.length + 1 + R2.length))]).length)))) (bT B c st (R2 ++ [Cell.lst [wd x, wd x]] ++ [Cell.lst (bad2 (wd x) (B.length + 1 + R2.length))] ++ [Cell.lst (bad1 (wd x) ++ bad2 (wd x) (B.length + 1 + R2.length))])) := by
    have v5 : ∀ S, (mVar 5) sd S = .ok (wd x) S := fun S => var' h5
    have i1 : (mTup (mCons (mC (.str (cs "join"))) (mCons (mLst (mCons (mVar 5) (mCons (mVar 5) mNil))) mNil))) sd (bT B c st R2) = .ok (.tup [.str (cs "join"), .loc (B.length + 1 + R2.length)]) (bT B c st (R2 ++ [Cell.lst [wd x, wd x]])) :=
      tup' (cons' rfl (cons' (mk_lst (cons' (v5 _) (cons' (v5 _) nil')) (by simp)) nil')) (by simp)
    have i2 : (mTup (mCons (mC (.str (cs "pick"))) (mCons (mVar 5) (mCons (mVar 5) mNil)))) sd (bT B c st R2) = .ok (.tup [.str (cs "pick"), wd x, wd x]) (bT B c st R2) := tup' (cons' rfl (cons' (v5 _) (cons' (v5 _) nil'))) (by simp)
    have i3 : (mTup (mCons (mC (.str (cs "part"))) (mCons (mVar 5) (mCons (mC (.int 0)) (mCons (mC (.int 1)) mNil))))) sd (bT B c st R2) = .ok (.tup [.str (cs "part"), wd x, .int 0, .int 1]) (bT B c st R2) := tup' (cons' rfl (cons' (v5 _) rfl)) (by simp)
    have i4 : (mTup (mCons (mC (.str (cs "join"))) (mCons (mTup (mCons (mVar 5) mNil)) mNil))) sd (bT B c st R2) = .ok (.tup [.str (cs "join"), .tup [wd x]]) (bT B c st R2) := tup' (cons' rfl (cons' (tup' (cons' (v5 _) nil') (by simp)) nil')) (by simp)
    refine set' (bin' (var' h7) (mk_lst (ds := bad2 (wd x) (B.length + 1 + R2.length)) (cons' i2 (cons' i3 (cons' i4 (cons' i1 nil')))) (by simp [bad2])) (add_lst a7.app.app (atR.new 0 rfl) (by simp [bad1, bad2])))
  refine seq_exB e8 ?_
  subst hsd
  show ∃ J, mSeq (lS9 P0) _ (s21 (some c) (some (.loc B.length)) x2 x3 x4 (some (wd x)) (some (.loc m6)) (some (.loc (B.length + 1 + (R2 ++ [Cell.lst [wd x, wd x]] ++ [Cell.lst (bad2 (wd x) (B.length + 1 + R2.length))]).length))) none none none none none none none none none none none none none) _ = _
  have aj1 : atR B (R2 ++ [Cell.lst [wd x, wd x]] ++ [Cell.lst (bad2 (wd x) (B.length + 1 + R2.length))] ++ [Cell.lst (bad1 (wd x) ++ bad2 (wd x) (B.length + 1 + R2.length))]) (B.length + 1 + R2.length) (.lst [wd x, wd x]) := (atR.new 0 rfl).app.app
  have ab2 : atR B (R2 ++ [Cell.lst [wd x, wd x]] ++ [Cell.lst (bad2 (wd x) (B.length + 1 + R2.length))] ++ [Cell.lst (bad1 (wd x) ++ bad2 (wd x) (B.length + 1 + R2.length))]) (B.length + 1 + (R2 ++ [Cell.lst [wd x, wd x]] ++ [Cell.lst (bad2 (wd x) (B.length + 1 + R2.length))]).length) (.lst (bad1 (wd x) ++ bad2 (wd x) (B.length + 1 + R2.length))) := atR.new 0 rfl
  replace a6 := ((a6.app (X := [Cell.lst [wd x, wd x]])).app (X := [Cell.lst (bad2 (wd x) (B.length + 1 + R2.length))])).app (X := [Cell.lst (bad1 (wd x) ++ bad2 (wd x) (B.length + 1 + R2.length))])
  generalize B.length + 1 + (R2 ++ [Cell.lst [wd x, wd x]] ++ [Cell.lst (bad2 (wd x) (B.length + 1 + R2.length))]).length = m8 at ab2
  generalize R2 ++ [Cell.lst [wd x, wd x]] ++ [Cell.lst (bad2 (wd x) (B.length + 1 + R2.length))] ++ [Cell.lst (bad1 (wd x) ++ bad2 (wd x) (B.length + 1 + R2.length))] = R3 at aj1 ab2 a6
  generalize B.length + 1 + R2.length = j1 at aj1 ab2
  generalize hsd : s21 (some c) (some (.loc B.length)) x2 x3 x4 (some (wd x)) (some (.loc m6)) (some (.loc m8)) none none none none none none none none none none none none none = sd
  have h5 : sd[5]? = some (some (wd x)) := by rw [← hsd]; rfl
  have h8 : sd[7]? = some (some (.loc m8)) := by rw [← hsd]; rfl
  have e9 : lS9 P0 sd (bT B c st R3) = .nx (sd.set 7 (some (.loc (B.length + 1 + (R3 ++ [Cell.lst [.str (cs "not"), wd x]] ++ [Cell.lst (bad3 (wd x) (B.length + 1 + R3.length))]).length)))) (bT B c st (R3 ++ [Cell.lst [.str (cs "not"), wd x]] ++ [Cell.lst (bad3 (wd x) (B.length + 1 + R3.length))] ++ [Cell.lst ((bad1 (wd x) ++ bad2 (wd x) j1) ++ bad3 (wd x) (B.length + 1 + R3.length))])) := by
    have v5 : ∀ S, (mVar 5) sd S = .ok (wd x) S := fun S => var' h5
    have i1 : (mLst (mCons (mC (.str (cs "not"))) (mCons (mVar 5) mNil))) sd (bT B c st R3) = .ok (.loc (B.length + 1 + R3.length)) (bT B c st (R3 ++ [Cell.lst [.str (cs "not"), wd x]])) := mk_lst (cons' rfl (cons' (v5 _) nil')) (by simp)
    have i2 : (mTup (mCons (mC (.str (cs "part"))) (mCons (mVar 5) (mCons (mC (.bl true)) (mCons (mC (.int 0)) mNil))))) sd (bT B c st R3) = .ok (.tup [.str (cs "part"), wd x, .bl true, .int 0]) (bT B c st R3) := tup' (cons' rfl (cons' (v5 _) rfl)) (by simp)
    have i3 : (mTup (mCons (mC (.str (cs "part"))) (mCons (mVar 5) (mCons (mNeg (mC (.int 1))) (mCons (mNeg (mC (.int 2))) mNil))))) sd (bT B c st R3) = .ok (.tup [.str (cs "part"), wd x, .int (-1), .int (-2)]) (bT B c st R3) := tup' (cons' rfl (cons' (v5 _) rfl)) (by simp)
    have i4 : ∀ S, (mCons (mTup mNil) (mCons (mTup (mCons (mC (.str (cs "other"))) (mCons (mVar 5) mNil))) (mCons (mTup (mCons (mC (.str (cs "const"))) (mCons (mC (.int 2)) (mCons (mC (.bl true)) mNil)))) (mCons (mTup (mCons (mC (.str (cs "name"))) (mCons (mC (.int 1)) mNil))) mNil)))) sd S = .ok [.tup [], .tup [.str (cs "other"), wd x], .tup [.str (cs "const"), .int 2, .bl true], .tup [.str (cs "name"), .int 1]] S :=
      fun S => cons' (S1 := S) rfl (cons' (tup' (cons' rfl (cons' (v5 _) nil')) (by simp)) rfl)
    refine set' (bin' (var' h8) (mk_lst (ds := bad3 (wd x) (B.length + 1 + R3.length)) (cons' i2 (cons' i3 (cons' rfl (cons' i1 (i4 _))))) (by simp [bad3])) (add_lst ab2.app.app (atR.new 0 rfl) (by simp [bad1, bad2, bad3])))
  refine seq_exB e9 ?_
  subst hsd
  show ∃ J, mSeq (lS10 P0) _ (s21 (some c) (some (.loc B.length)) x2 x3 x4 (some (wd x)) (some (.loc m6)) (some (.loc (B.length + 1 + (R3 ++ [Cell.lst [.str (cs "not"), wd x]] ++ [Cell.lst (bad3 (wd x) (B.length + 1 + R3.length))]).length))) none none none none none none none none none none none none none) _ = _
  have aj2 : atR B (R3 ++ [Cell.lst [.str (cs "not"), wd x]] ++ [Cell.lst (bad3 (wd x) (B.length + 1 + R3.length))] ++ [Cell.lst ((bad1 (wd x) ++ bad2 (wd x) j1) ++ bad3 (wd x) (B.length + 1 + R3.length))]) (B.length + 1 + R3.length) (.lst [.str (cs "not"), wd x]) := (atR.new 0 rfl).app.app
  have ab3 : atR B (R3 ++ [Cell.lst [.str (cs "not"), wd x]] ++ [Cell.lst (bad3 (wd x) (B.length + 1 + R3.length))] ++ [Cell.lst ((bad1 (wd x) ++ bad2 (wd x) j1) ++ bad3 (wd x) (B.length + 1 + R3.length))]) (B.length + 1 + (R3 ++ [Cell.lst [.str (cs "not"), wd x]] ++ [Cell.lst (bad3 (wd x) (B.length + 1 + R3.length))]).length) (.lst (badL (wd x) j1 (B.length + 1 + R3.length))) := atR.new 0 rfl
  replace a6 := ((a6.app (X := [Cell.lst [.str (cs "not"), wd x]])).app (X := [Cell.lst (bad3 (wd x) (B.length + 1 + R3.length))])).app (X := [Cell.lst ((bad1 (wd x) ++ bad2 (wd x) j1) ++ bad3 (wd x) (B.length + 1 + R3.length))])
  replace aj1 := ((aj1.app (X := [Cell.lst [.str (cs "not"), wd x]])).app (X := [Cell.lst (bad3 (wd x) (B.length + 1 + R3.length))])).app (X := [Cell.lst ((bad1 (wd x) ++ bad2 (wd x) j1) ++ bad3 (wd x) (B.length + 1 + R3.length))])
  generalize B.length + 1 + (R3 ++ [Cell.lst [.str (cs "not"), wd x]] ++ [Cell.lst (bad3 (wd x) (B.length + 1 + R3.length))]).length = m9 at ab3
  generalize R3 ++ [Cell.lst [.str (cs "not"), wd x]] ++ [Cell.lst (bad3 (wd x) (B.length + 1 + R3.length))] ++ [Cell.lst ((bad1 (wd x) ++ bad2 (wd x) j1) ++ bad3 (wd x) (B.length + 1 + R3.length))] = R4 at aj1 aj2 ab3 a6
  generalize B.length + 1 + R3.length = j2 at aj2 ab3
  obtain ⟨q0, q1, o1⟩ := pk_ok (ns := ns) (lim := 8) (by decide) o
  have p1 := fun sd h1 => c_pk (R := R4) (sd := sd) (ml := mC (.int 8)) hs o (by decide) (by decide) h1 rfl
  generalize (pk ns st 8).1 = y at q0 q1 p1
  generalize (pk ns st 8).2 = st1 at o1 p1
  obtain ⟨i, rfl, hi⟩ := nat_of (n := 8) q0 q1
  have hl : i < (goodL (wd x)).length := hi
  have eg : (goodL (wd x))[i]? = some (goodL (wd x))[i] := by simp [hl]
  obtain ⟨g1, g2, g3⟩ := good_ok hx _ (List.getElem_mem hl)
  generalize (goodL (wd x))[i] = one at eg g1 g2 g3
  obtain ⟨r0, r1, o2⟩ := pk_ok (ns := ns) (lim := 20) (by decide) o1
  have p2 := fun sd h1 => c_pk (R := R4) (sd := sd) (ml := mC (.int 20)) hs o1 (by decide) (by decide) h1 rfl
  generalize (pk ns st1 20).1 = z at r0 r1 p2
  generalize (pk ns st1 20).2 = st2 at o2 p2
  obtain ⟨j, rfl, hj⟩ := nat_of (n := 20) r0 r1
  have hl : j < (badL (wd x) j1 j2).length := hj
  have eb : (badL (wd x) j1 j2)[j]? = some (badL (wd x) j1 j2)[j] := by simp [hl]
  have hm := List.getElem_mem hl
  obtain ⟨b1, b2, b3, b4⟩ := bad_ok hx _ hm
  have b5 := bad_w hx _ hm
  generalize (badL (wd x) j1 j2)[j] = odd at eb b1 b2 b3 b4 b5
  refine seq_exB (sd1 := s21 (some c) (some (.loc B.length)) x2 x3 x4 (some (wd x)) (some (.loc m6)) (some (.loc m9)) (some one) (some odd) none none none none none none none none none none none) (S1 := bT B c st2 R4) ?_ (k _ _ _ _ _ _ o2 g1 g3 g2 b1 b2 b5 b3 fun st => b4 _ ?_ ?_)
  · exact par' (cons' (bin' (d := .loc m6) (S1 := bT B c st R4) rfl (p1 _ rfl) (ixl a6.get eg)) (cons' (bin' (d := .loc m9) (S1 := bT B c st1 R4) rfl (p2 _ rfl) (ixl ab3.get eb)) nil'))
  · unfold cellL; rw [aj1.get]; rfl
  · unfold cellL; rw [aj2.get]; rfl
end
end K00

namespace K00
open PySem PySem.Spec PyProof.Rows L2 Fx
section
variable {S : List Cell}
theorem okvL_of : ∀ {l : List D}, (∀ d ∈ l, okv S d = true) → okvL S l = true
  | [], _ => rfl
  | d :: l, h => by
    rw [okvL, h d (by simp), okvL_of fun e he => h e (by simp [he])]
    rfl
theorem depL_of {n : Nat} : ∀ {l : List D}, (∀ d ∈ l, dep d ≤ n) → depL l ≤ n
  | [], _ => Nat.zero_le _
  | d :: l, h => by
    have h1 := h d (by simp)
    have h2 := depL_of (l := l) fun e he => h e (by simp [he])
    have : depL (d :: l) = max (dep d) (depL l) := by rw [depL]
    omega
theorem okd_tupOf {n : Nat} {l : List D} (hz : l.length ≤ 1000) (h : ∀ d ∈ l, okd n S d = true) : okd (n + 1) S (.tup l) = true := by
  refine okd_of ?_ ?_
  · rw [okv, Bool.and_eq_true, decide_eq_true_eq]
    exact ⟨hz, okvL_of fun d hd => (okd_inv (h d hd)).1⟩
  · have : dep (.tup l) = depL l + 1 := by rw [dep]
    have := depL_of (n := n) fun d hd => (okd_inv (h d hd)).2
    omega
theorem okd_le' {m n : Nat} {d : D} (h : okd m S d = true) (hmn : m ≤ n) : okd n S d = true := by
  obtain ⟨h1, h2⟩ := okd_inv h
  exact okd_of h1 (by omega)
theorem call_ok {P0 : Addr} {kind : List Nat} {v : D} (h : okC P0 S kind v = true) : m__law_call P0 [.str kind, v] S = .ok (callE kind v) S := by
  unfold m__law_call
  simp only [h, if_true]
def tupR (S : List Cell) : D → D | .loc n => .tup ((cellL S n).getD []) | _ => .non
/-- tuple(row) for row in rows -/
theorem lc_rows {sd : Sl} {a0 a1 a2 a3 : Nat} {g0 g1 g2 g3 : List D} (hl : sd.length = 21) (h : sd[10]? = some (some (D.tup [.loc a0, .loc a1, .loc a2, .loc a3]))) (h0 : S[a0]? = some (.lst g0)) (h1 : S[a1]? = some (.lst g1)) (h2 : S[a2]? = some (.lst g2)) (h3 : S[a3]? = some (.lst g3)) :
    mLc (mSeqI (mVar 10)) [20] (gN 20) mYes (mB oTupC (mCons (mVar 20) mNil)) sd S = .ok [.tup g0, .tup g1, .tup g2, .tup g3] S := by
  have key : ∀ (n : Nat) (g : List D), S[n]? = some (.lst g) → ∃ sd1, gN 20 (.loc n) (wipeD sd [20]) S = .ok sd1 S ∧ mYes sd1 S = .ok true S ∧ (mB oTupC (mCons (mVar 20) mNil)) sd1 S = .ok (.tup g) S := by
    intro n g hn
    refine ⟨_, rfl, rfl, ?_⟩
    refine mb' (cons' (var' (d := .loc n) ?_) nil') ?_
    · have : (wipeD sd [20]).length = 21 := by simp [wipeD, hl]
      rw [List.getElem?_set_self (by omega)]
    · show (match seqD S (.loc n) with | some xs => Res.ok (D.tup xs) S | none => .stk) = _
      rw [seqD_loc]
      unfold cellL
      rw [hn]
  have lc := lcGo_map (it := ⟨[.loc a0, .loc a1, .loc a2, .loc a3], none⟩) (ws := [20]) (g := gN 20) (t := mYes) (e := mB oTupC (mCons (mVar 20) mNil)) (S := S) (sd := sd) (tupR S) trivial [.loc a0, .loc a1, .loc a2, .loc a3] [] (fun y hy => by
    simp only [List.mem_cons, List.not_mem_nil, or_false] at hy
    have c : ∀ {n : Nat} {g : List D}, S[n]? = some (.lst g) → (cellL S n).getD [] = g := fun {n g} e => by unfold cellL; rw [e]; rfl
    rcases hy with rfl | rfl | rfl | rfl
    · simp only [tupR, c h0]; exact key _ _ h0
    · simp only [tupR, c h1]; exact key _ _ h1
    · simp only [tupR, c h2]; exact key _ _ h2
    · simp only [tupR, c h3]; exact key _ _ h3) (by have : 4 ≤ sizeLine := line_le (by omega); simpa using this)
  have c : ∀ {n : Nat} {g : List D}, S[n]? = some (.lst g) → cellL S n = some g := fun {n g} e => by unfold cellL; rw [e]
  simp only [mLc_ev, mSeqI_ev, mVar_ev, h, bind_ok, lc, List.map_cons, List.map_nil, tupR, c h0, c h1, c h2, c h3, Option.getD_some, List.nil_append]
end
section
variable {P0 : Addr} {B : List Cell} {c d : D} {ns : List Int}
/-- what is known of one, word, odd -/
structure Ow (B : List Cell) (c : D) (R : List Cell) (one odd : D) : Prop where
  t1 : isT 40 one = true
  o1 : ∀ S, okv S one = true
  d1 : dep one ≤ 5
  t2 : isT 40 odd = false
  t3 : isT 39 odd = false
  w2 : isWidth odd = false
  d2 : dep odd ≤ 5
  o2 : okR B c R odd
theorem Ow.app {R X : List Cell} {one odd : D} (h : Ow B c R one odd) : Ow B c (R ++ X) one odd := ⟨h.t1, h.o1, h.d1, h.t2, h.t3, h.w2, h.d2, h.o2.app⟩
theorem Ow.set {R : List Cell} {i : Nat} {ys : List D} {one odd : D} (h : Ow B c R one odd) : Ow B c (R.set i (.lst ys)) one odd := ⟨h.t1, h.o1, h.d1, h.t2, h.t3, h.w2, h.d2, h.o2.set⟩
theorem wd_ok {x : List Nat} (hx : x ∈ wds) : isT 40 (wd x) = true ∧ (∀ S, okv S (wd x) = true) ∧ dep (wd x) ≤ 5 := by
  obtain ⟨h1, h2, h3⟩ := good_ok hx (wd x) (by simp [goodL])
  exact ⟨h1, h3, h2⟩
theorem stC {rest : MS} {one odd : D} {st : Tp} {R : List Cell} {sd : Sl} (h8 : sd[8]? = some (some one)) (h9 : sd[9]? = some (some odd)) (W : Ow B c R one odd) (k : ∃ J, rest sd (bT B c st R) = .rt d (B ++ J)) :
    ∃ J, mSeq (lS11 P0) rest sd (bT B c st R) = .rt d (B ++ J) := by
  refine seq_exB (sd1 := sd) (S1 := bT B c st R) ?_ k
  have k1 : okC P0 (bT B c st R) (cs "term") one = true := okd_of (W.o1 _) (by have := W.d1; omega)
  have k2 : okC P0 (bT B c st R) (cs "term") odd = true := okd_of (W.o2 _) (by have := W.d2; omega)
  have k3 : okC P0 (bT B c st R) (cs "term") (.tup [.str (cs "not"), odd]) = true := by
    refine okd_tupOf (n := 39) (by simp) fun e he => ?_
    simp only [List.mem_cons, List.not_mem_nil, or_false] at he
    rcases he with rfl | rfl
    · rfl
    · exact okd_of (W.o2 _) (by have := W.d2; omega)
  have c1 : callE (cs "term") one = .non := by
    show toldX (cs "InvalidTerm") (if isT 40 one = true then none else some .non) = .non
    rw [W.t1]; rfl
  have c2 : callE (cs "term") odd = .tup [.str (cs "InvalidTerm"), .non] := by
    show toldX (cs "InvalidTerm") (if isT 40 odd = true then none else some .non) = _
    rw [W.t2]; rfl
  have c3 : callE (cs "term") (.tup [.str (cs "not"), odd]) = .tup [.str (cs "InvalidTerm"), .non] := by
    show toldX (cs "InvalidTerm") (if isT 40 (.tup [.str (cs "not"), odd]) = true then none else some .non) = _
    have : isT 40 (.tup [.str (cs "not"), odd]) = isT 39 odd := rfl
    rw [this, W.t3]; rfl
  have sm : m_same 30 [.tup [.str (cs "InvalidTerm"), .non], .tup [.str (cs "InvalidTerm"), .non]] (bT B c st R) = .ok (.bl true) (bT B c st R) := same_t (same_refl 30 _ rfl (Nat.lt_of_lt_of_le (show dep (.tup [.str (cs "InvalidTerm"), .non]) < 2 from Nat.lt_succ_self _) (by omega)))
  have e1 := call_ok k1
  have e2 := call_ok k2
  have e3 := call_ok k3
  rw [c1] at e1
  rw [c2] at e2
  rw [c3] at e3
  have t1 : (mTst (mBin oNotN (mCall (m__law_call P0) (mCons (mC (.str (cs "term"))) (mCons (mVar 8) mNil))) (mC .non))) sd (bT B c st R) = .ok false (bT B c st R) :=
    tst' (bin' (call' (cons' rfl (cons' (var' h8) nil')) e1) rfl rfl)
  have t2 : (mNot (mTru (mCall (m_same 30) (mCons (mCall (m__law_call P0) (mCons (mC (.str (cs "term"))) (mCons (mVar 9) mNil))) (mCons (mTup (mCons (mC (.str (cs "InvalidTerm"))) (mCons (mC .non) mNil))) mNil))))) sd (bT B c st R) = .ok false (bT B c st R) :=
    not' (b := true) (tru' (call' (cons' (call' (cons' rfl (cons' (var' h9) nil')) e2) rfl) sm))
  have t3 : (mNot (mTru (mCall (m_same 30) (mCons (mCall (m__law_call P0) (mCons (mC (.str (cs "term"))) (mCons (mTup (mCons (mC (.str (cs "not"))) (mCons (mVar 9) mNil))) mNil))) (mCons (mTup (mCons (mC (.str (cs "InvalidTerm"))) (mCons (mC .non) mNil))) mNil))))) sd (bT B c st R) = .ok false (bT B c st R) :=
    not' (b := true) (tru' (call' (cons' (call' (cons' rfl (cons' (tup' (cons' rfl (cons' (var' h9) nil')) (by simp)) nil')) e3) rfl) sm))
  exact if_f (or_f t1 (or_f t2 t3))
end
end K00

namespace K00
open PySem PySem.Spec PyProof.Rows L2 Fx
theorem cut_take {α : Type} (xs : List α) (s : Nat) : cutG xs none (some (s : Int)) = xs.take s := by
  unfold cutG
  rw [HT.sIx_none, HT.sIx_nat]
  simp
theorem cut_drop {α : Type} (xs : List α) (s : Nat) : cutG xs (some (s : Int)) none = xs.drop s := by
  unfold cutG
  rw [HT.sIx_none, HT.sIx_nat]
  by_cases h : s ≤ xs.length
  · rw [Nat.min_eq_left h, List.take_of_length_le (by simp)]
  · rw [Nat.min_eq_right (by omega), List.drop_of_length_le (Nat.le_refl _), List.drop_of_length_le (by omega)]
    simp
theorem mk_fresh {B : List Cell} {c : D} {st : Tp} {R : List Cell} {sd : Sl} {l : ML} {ds : List D} (h : l sd (bT B c st R) = .ok ds (bT B c st R)) : mFresh l sd (bT B c st R) = .ok (.loc (B.length + 1 + R.length)) (bT B c st (R ++ [.lst ds])) := by
  rw [fresh' h, bT_len, bT_app]
theorem mF' {S S1 : List Cell} {sd : Sl} {f : OF} {l : ML} {ds : List D} {r : Res D} (h : l sd S = .ok ds S1) (hf : f ds S1 = r) : mF f l sd S = r := by
  simp only [mF_ev, h, bind_ok, hf]
section
variable {S : List Cell} {one w : D}
theorem leaf_ok {k : List Nat} (h : okT k = true) (hz : k.length ≤ 1000) {n : Nat} : okd n S (.str k) = true := okd_of (by rw [okv, h]; simp [hz]) (Nat.zero_le _)
theorem int_ok {i : Int} {n : Nat} : okd n S (.int i) = true := okd_of rfl (Nat.zero_le _)
theorem non_ok {n : Nat} : okd n S .non = true := okd_of rfl (Nat.zero_le _)
theorem g_rows (h1 : okd 38 S one = true) (h2 : okd 38 S w = true) {a : Nat} (ha : a < 4) : ∀ g ∈ Gs one w a, okd 40 S g = true := by
  have k1 : okd 39 S one = true := okd_le' h1 (by omega)
  have k2 : okd 39 S w = true := okd_le' h2 (by omega)
  intro g hg
  match a, ha with
  | 0, _ =>
    simp only [Gs, G0, List.mem_cons, List.not_mem_nil, or_false] at hg
    rcases hg with rfl | rfl <;>
    · refine okd_tupOf (n := 39) (by simp) fun e he => ?_
      simp only [List.mem_cons, List.not_mem_nil, or_false] at he
      rcases he with rfl | rfl <;> first | exact int_ok | rfl
  | 1, _ =>
    simp only [Gs, G1, List.mem_cons, List.not_mem_nil, or_false] at hg
    rcases hg with rfl | rfl <;>
    · refine okd_tupOf (n := 39) (by simp) fun e he => ?_
      simp only [List.mem_cons, List.not_mem_nil, or_false] at he
      rcases he with rfl | rfl | rfl | rfl | rfl <;> first | exact int_ok | exact k1 | exact k2 | exact non_ok | rfl
  | 2, _ =>
    simp only [Gs, G2, List.mem_cons, List.not_mem_nil, or_false] at hg
    rcases hg with rfl
    refine okd_tupOf (n := 39) (by simp) fun e he => ?_
    simp only [List.mem_cons, List.not_mem_nil, or_false] at he
    rcases he with rfl | rfl <;> first | exact k1 | rfl
  | 3, _ =>
    simp only [Gs, G3, List.mem_cons, List.not_mem_nil, or_false] at hg
    rcases hg with rfl | rfl <;>
    · refine okd_tupOf (n := 39) (by simp) fun e he => ?_
      simp only [List.mem_cons, List.not_mem_nil, or_false] at he
      rcases he with rfl | rfl <;> first | exact k1 | exact k2 | rfl
theorem g_len {a : Nat} (ha : a < 4) : 1 ≤ (Gs one w a).length ∧ (Gs one w a).length ≤ 2 := by
  match a, ha with
  | 0, _ => exact ⟨Nat.le_of_ble_eq_true rfl, Nat.le_of_ble_eq_true rfl⟩
  | 1, _ => exact ⟨Nat.le_of_ble_eq_true rfl, Nat.le_of_ble_eq_true rfl⟩
  | 2, _ => exact ⟨Nat.le_of_ble_eq_true rfl, Nat.le_of_ble_eq_true rfl⟩
  | 3, _ => exact ⟨Nat.le_of_ble_eq_true rfl, Nat.le_of_ble_eq_true rfl⟩
theorem g_tup (h1 : okd 38 S one = true) (h2 : okd 38 S w = true) {a : Nat} (ha : a < 4) : okd 41 S (.tup (Gs one w a)) = true :=
  okd_tupOf (n := 40) (by have := (g_len (one := one) (w := w) ha).2; omega) (g_rows h1 h2 ha)
theorem okC_chip {P0 : Addr} {nm i r x o : D} (k0 : okv S nm = true) (k1 : okd 41 S i = true) (k2 : okd 41 S r = true) (k3 : okd 41 S x = true) (k4 : okd 41 S o = true) : okC P0 S (cs "chip") (.tup [nm, i, r, x, o]) = true := by
  show (okv S nm && okd 41 S i && okd 41 S r && okd 41 S x && okd 41 S o) = true
  rw [k0, k1, k2, k3, k4]
  rfl
theorem okC_W {P0 : Addr} {nm x : D} (k0 : okv S nm = true) (h1 : okd 38 S one = true) (h2 : okd 38 S w = true) {a : Nat} (ha : a < 4) (hx : okd 41 S x = true) : okC P0 S (cs "chip") (.tup (nm :: rowsW one w a x)) = true := by
  have g0 := g_tup h1 h2 (a := 0) (by decide)
  have g1 := g_tup h1 h2 (a := 1) (by decide)
  have g2 := g_tup h1 h2 (a := 2) (by decide)
  have g3 := g_tup h1 h2 (a := 3) (by decide)
  match a, ha with
  | 0, _ => exact okC_chip k0 hx g1 g2 g3
  | 1, _ => exact okC_chip k0 g0 hx g2 g3
  | 2, _ => exact okC_chip k0 g0 g1 hx g3
  | 3, _ => exact okC_chip k0 g0 g1 g2 hx
end
section
variable {P0 : Addr} {B : List Cell} {c d : D} {ns : List Int}
abbrev kinds1 : D := .tup [.str (cs "in"), .str (cs "reg"), .str (cs "wire"), .str (cs "out")]
theorem stD {rest : MS} {one odd : D} {x : List Nat} {x2 x3 x4 x6 x7 : Option D} {st : Tp} {R : List Cell} (hx : x ∈ wds) (W : Ow B c R one odd)
    (k : ∀ m0 m1 m2 m3 mw j R, Ow B c R one odd → atR B R m0 (.lst G0) → atR B R m1 (.lst (G1 one (wd x))) → atR B R m2 (.lst (G2 one)) → atR B R m3 (.lst (G3 one (wd x))) → atR B R mw (.lst (wrongL one odd j)) → okR B c R (.loc j) →
      ∃ J, rest (s21 (some c) (some (.loc B.length)) x2 x3 x4 (some (wd x)) x6 x7 (some one) (some odd) (some (.tup [.loc m0, .loc m1, .loc m2, .loc m3])) (some kinds1) (some (.loc mw)) none none none none none none none none) (bT B c st R) = .rt d (B ++ J)) :
    ∃ J, mSeq (lS12 P0) (mSeq (lS13 P0) (mSeq (lS14 P0) rest)) (s21 (some c) (some (.loc B.length)) x2 x3 x4 (some (wd x)) x6 x7 (some one) (some odd) none none none none none none none none none none none) (bT B c st R) = .rt d (B ++ J) := by
  refine seq_exB (sd1 := s21 (some c) (some (.loc B.length)) x2 x3 x4 (some (wd x)) x6 x7 (some one) (some odd) (some (.tup [.loc (B.length + 1 + R.length), .loc (B.length + 1 + (R ++ [Cell.lst G0]).length), .loc (B.length + 1 + (R ++ [Cell.lst G0] ++ [Cell.lst (G1 one (wd x))]).length), .loc (B.length + 1 + (R ++ [Cell.lst G0] ++ [Cell.lst (G1 one (wd x))] ++ [Cell.lst (G2 one)]).length)])) none none none none none none none none none none)
    (S1 := bT B c st (R ++ [Cell.lst G0] ++ [Cell.lst (G1 one (wd x))] ++ [Cell.lst (G2 one)] ++ [Cell.lst (G3 one (wd x))])) (set' (tup' (cons' (mk_lst (ds := G0) rfl (by simp [G0])) (cons' (mk_lst (ds := G1 one (wd x)) rfl (by simp [G1])) (cons' (mk_lst (ds := G2 one) rfl (by simp [G2])) (cons' (mk_lst (ds := G3 one (wd x)) rfl (by simp [G3])) nil')))) (by simp))) ?_
  have A0 : atR B (R ++ [Cell.lst G0] ++ [Cell.lst (G1 one (wd x))] ++ [Cell.lst (G2 one)] ++ [Cell.lst (G3 one (wd x))]) (B.length + 1 + R.length) (.lst G0) := (atR.new 0 rfl).app.app.app
  have A1 : atR B (R ++ [Cell.lst G0] ++ [Cell.lst (G1 one (wd x))] ++ [Cell.lst (G2 one)] ++ [Cell.lst (G3 one (wd x))]) (B.length + 1 + (R ++ [Cell.lst G0]).length) (.lst (G1 one (wd x))) := (atR.new 0 rfl).app.app
  have A2 : atR B (R ++ [Cell.lst G0] ++ [Cell.lst (G1 one (wd x))] ++ [Cell.lst (G2 one)] ++ [Cell.lst (G3 one (wd x))]) (B.length + 1 + (R ++ [Cell.lst G0] ++ [Cell.lst (G1 one (wd x))]).length) (.lst (G2 one)) := (atR.new 0 rfl).app
  have A3 : atR B (R ++ [Cell.lst G0] ++ [Cell.lst (G1 one (wd x))] ++ [Cell.lst (G2 one)] ++ [Cell.lst (G3 one (wd x))]) (B.length + 1 + (R ++ [Cell.lst G0] ++ [Cell.lst (G1 one (wd x))] ++ [Cell.lst (G2 one)]).length) (.lst (G3 one (wd x))) := atR.new 0 rfl
  have W1 : Ow B c (R ++ [Cell.lst G0] ++ [Cell.lst (G1 one (wd x))] ++ [Cell.lst (G2 one)] ++ [Cell.lst (G3 one (wd x))]) one odd := W.app.app.app.app
  generalize B.length + 1 + (R ++ [Cell.lst G0] ++ [Cell.lst (G1 one (wd x))] ++ [Cell.lst (G2 one)]).length = m3 at A3
  generalize B.length + 1 + (R ++ [Cell.lst G0] ++ [Cell.lst (G1 one (wd x))]).length = m2 at A2
  generalize B.length + 1 + (R ++ [Cell.lst G0]).length = m1 at A1
  generalize B.length + 1 + R.length = m0 at A0
  generalize R ++ [Cell.lst G0] ++ [Cell.lst (G1 one (wd x))] ++ [Cell.lst (G2 one)] ++ [Cell.lst (G3 one (wd x))] = R1 at A0 A1 A2 A3 W1
  refine seq_exB (sd1 := s21 (some c) (some (.loc B.length)) x2 x3 x4 (some (wd x)) x6 x7 (some one) (some odd) (some (.tup [.loc m0, .loc m1, .loc m2, .loc m3])) (some kinds1) (some (.loc (B.length + 1 + (R1 ++ [Cell.lst [.str (cs "z"), one]]).length))) none none none none none none none none)
    (S1 := bT B c st (R1 ++ [Cell.lst [.str (cs "z"), one]] ++ [Cell.lst (wrongL one odd (B.length + 1 + R1.length))])) (par' (cons' (d := kinds1) (S1 := bT B c st R1) rfl (cons' (mk_lst (ds := wrongL one odd (B.length + 1 + R1.length)) (cons' (S1 := bT B c st R1) rfl (cons' (S1 := bT B c st R1) rfl (cons' (mk_lst (st := st) (R := R1) (ds := [.str (cs "z"), one]) rfl (by simp)) rfl))) (by simp [wrongL])) nil'))) ?_
  have Aj : atR B (R1 ++ [Cell.lst [.str (cs "z"), one]] ++ [Cell.lst (wrongL one odd (B.length + 1 + R1.length))]) (B.length + 1 + R1.length) (.lst [.str (cs "z"), one]) := (atR.new 0 rfl).app
  have Aw : atR B (R1 ++ [Cell.lst [.str (cs "z"), one]] ++ [Cell.lst (wrongL one odd (B.length + 1 + R1.length))]) (B.length + 1 + (R1 ++ [Cell.lst [.str (cs "z"), one]]).length) (.lst (wrongL one odd (B.length + 1 + R1.length))) := atR.new 0 rfl
  replace A0 := (A0.app (X := [Cell.lst [.str (cs "z"), one]])).app (X := [Cell.lst (wrongL one odd (B.length + 1 + R1.length))])
  replace A1 := (A1.app (X := [Cell.lst [.str (cs "z"), one]])).app (X := [Cell.lst (wrongL one odd (B.length + 1 + R1.length))])
  replace A2 := (A2.app (X := [Cell.lst [.str (cs "z"), one]])).app (X := [Cell.lst (wrongL one odd (B.length + 1 + R1.length))])
  replace A3 := (A3.app (X := [Cell.lst [.str (cs "z"), one]])).app (X := [Cell.lst (wrongL one odd (B.length + 1 + R1.length))])
  replace W1 := (W1.app (X := [Cell.lst [.str (cs "z"), one]])).app (X := [Cell.lst (wrongL one odd (B.length + 1 + R1.length))])
  generalize B.length + 1 + (R1 ++ [Cell.lst [.str (cs "z"), one]]).length = mw at Aw
  generalize R1 ++ [Cell.lst [.str (cs "z"), one]] ++ [Cell.lst (wrongL one odd (B.length + 1 + R1.length))] = R2 at A0 A1 A2 A3 W1 Aj Aw
  generalize B.length + 1 + R1.length = j at Aj Aw
  obtain ⟨t2, ow, dw⟩ := wd_ok hx
  have k1 : okd 38 (bT B c st R2) one = true := okd_of (W.o1 _) (by have := W.d1; omega)
  have k2 : okd 38 (bT B c st R2) (wd x) = true := okd_of (ow _) (by omega)
  have kc : okC P0 (bT B c st R2) (cs "chip") (.tup (.str (cs "c") :: [.tup G0, .tup (G1 one (wd x)), .tup (G2 one), .tup (G3 one (wd x))])) = true :=
    okC_chip rfl (g_tup k1 k2 (a := 0) (by decide)) (g_tup k1 k2 (a := 1) (by decide)) (g_tup k1 k2 (a := 2) (by decide)) (g_tup k1 k2 (a := 3) (by decide))
  have ec := call_ok kc
  rw [chip_good W.t1 t2] at ec
  refine seq_exB (if_f (S1 := bT B c st R2) (tst' (bin' (d := .non) (e := .non) (S1 := bT B c st R2) (S2 := bT B c st R2) (call' (ds := [.str (cs "chip"), .tup (.str (cs "c") :: [.tup G0, .tup (G1 one (wd x)), .tup (G2 one), .tup (G3 one (wd x))])]) (S1 := bT B c st R2) (cons' (S1 := bT B c st R2) rfl (cons' (bin' (d := .tup [.str (cs "c")]) (S1 := bT B c st R2) rfl (mF' (lc_rows rfl rfl A0.get A1.get A2.get A3.get) rfl) rfl) nil')) ec) rfl rfl))) ?_
  exact k m0 m1 m2 m3 mw j R2 W1 A0 A1 A2 A3 Aw (okR.loc Aj)
end
end K00

namespace K00
open PySem PySem.Spec PyProof.Rows L2 Fx
section
variable {P0 : Addr} {B : List Cell} {c d : D} {ns : List Int}
theorem wrong_okd {S : List Cell} {one odd : D} {j : Nat} (h1 : okd 38 S one = true) (h2 : okd 38 S odd = true) (h3 : okv S (.loc j) = true) : ∀ v ∈ wrongL one odd j, okd 40 S v = true := by
  have k1 : okd 39 S one = true := okd_le' h1 (by omega)
  have k2 : okd 39 S odd = true := okd_le' h2 (by omega)
  intro v hv
  simp only [wrongL, List.mem_cons, List.not_mem_nil, or_false] at hv
  rcases hv with rfl | rfl | rfl | rfl | rfl | rfl | rfl | rfl
  · refine okd_tupOf (n := 39) (by simp) fun e he => ?_
    simp only [List.mem_cons, List.not_mem_nil, or_false] at he
    rcases he with rfl | rfl <;> first | exact k2 | rfl
  · exact non_ok
  · exact okd_of h3 (Nat.zero_le _)
  · refine okd_tupOf (n := 39) (by simp) fun e he => ?_
    simp only [List.mem_cons, List.not_mem_nil, or_false] at he
    rcases he with rfl | rfl <;> first | exact k1 | rfl
  · refine okd_tupOf (n := 39) (by simp) fun e he => ?_
    simp only [List.mem_cons, List.not_mem_nil, or_false] at he
    rcases he with rfl | rfl | rfl | rfl | rfl <;> first | exact k1 | rfl
  · refine okd_tupOf (n := 39) (by simp) fun e he => ?_
    simp only [List.mem_cons, List.not_mem_nil, or_false] at he
    rcases he with rfl | rfl | rfl | rfl | rfl <;> first | exact k1 | rfl
  · refine okd_tupOf (n := 39) (by simp) fun e he => ?_
    simp only [List.mem_cons, List.not_mem_nil, or_false] at he
    rcases he with rfl
    rfl
  · refine okd_tupOf (n := 39) (by simp) fun e he => ?_
    simp only [List.mem_cons, List.not_mem_nil, or_false] at he
    rcases he with rfl | rfl <;> rfl
theorem kd_at {a : Nat} (ha : a < 4) : ([.str (cs "in"), .str (cs "reg"), .str (cs "wire"), .str (cs "out")] : List D)[a]? = some (.str (kd a)) := by
  match a, ha with
  | 0, _ => rfl
  | 1, _ => rfl
  | 2, _ => rfl
  | 3, _ => rfl
theorem kd_ok (a : Nat) : okT (kd a) = true := by
  match a with
  | 0 => rfl
  | 1 => rfl
  | 2 => rfl
  | n + 3 => rfl
/-- the rows as tuples -/
abbrev tups (one w : D) : List D := [.tup G0, .tup (G1 one w), .tup (G2 one), .tup (G3 one w)]
theorem tups_at {one w : D} {a : Nat} (ha : a < 4) : (tups one w)[a]? = some (.tup (Gs one w a)) := by
  match a, ha with
  | 0, _ => rfl
  | 1, _ => rfl
  | 2, _ => rfl
  | 3, _ => rfl
/-- the four answers -/
def dueL (a s l : Nat) : List D := [.tup [.str (cs "InvalidChip"), .tup [.str (kd a), .int (s : Nat)]], .tup [.str (cs "InvalidChip"), .tup [.str (kd a), .int (l : Nat)]], .tup [.str (cs "InvalidChip"), .tup [.str (kd a), .non]], .tup [.str (cs "InvalidChip"), .tup [.str (cs "chip"), .int 0]]]
theorem due_pln (a s l : Nat) : plnL (dueL a s l) = true ∧ depL (dueL a s l) < 29 := by
  constructor
  · have h := kd_ok a
    have e : pln (.str (kd a)) = true := h
    unfold dueL
    simp only [plnL, pln, h, Bool.true_and, Bool.and_true]
    rfl
  · exact Nat.lt_of_le_of_lt (Nat.le_of_ble_eq_true rfl) (by decide : 2 < 29)
theorem _root_.Fx.atR.lt {R : List Cell} {m : Nat} {y : Cell} (h : atR B R m y) : m < B.length + 1 + R.length := by
  obtain ⟨i, rfl, e⟩ := h
  have := (List.getElem?_eq_some_iff.mp e).1
  omega
/-- what stays -/
structure Pk (B : List Cell) (c : D) (R : List Cell) (one odd : D) (j m0 m1 m2 m3 ma : Nat) (x : List Nat) (g : List D) : Prop where
  w : Ow B c R one odd
  a0 : atR B R m0 (.lst G0)
  a1 : atR B R m1 (.lst (G1 one (wd x)))
  a2 : atR B R m2 (.lst (G2 one))
  a3 : atR B R m3 (.lst (G3 one (wd x)))
  aa : atR B R ma (.lst g)
  aj : okR B c R (.loc j)
theorem Pk.app {R X : List Cell} {one odd : D} {j m0 m1 m2 m3 ma : Nat} {x : List Nat} {g : List D} (h : Pk B c R one odd j m0 m1 m2 m3 ma x g) : Pk B c (R ++ X) one odd j m0 m1 m2 m3 ma x g :=
  ⟨h.w.app, h.a0.app, h.a1.app, h.a2.app, h.a3.app, h.aa.app, h.aj.app⟩
theorem Pk.fresh {R : List Cell} {one odd : D} {j m0 m1 m2 m3 ma : Nat} {x : List Nat} {g : List D} (h : Pk B c R one odd j m0 m1 m2 m3 ma x g) : ∀ m ∈ [m0, m1, m2, m3, ma], B.length + 1 + R.length ≠ m := by
  intro m hm e
  simp only [List.mem_cons, List.not_mem_nil, or_false] at hm
  have h0 := h.a0.lt
  have h1 := h.a1.lt
  have h2 := h.a2.lt
  have h3 := h.a3.lt
  have h4 := h.aa.lt
  omega
theorem Pk.set {R : List Cell} {one odd : D} {j m0 m1 m2 m3 ma n : Nat} {x : List Nat} {g y : List D} {z : Cell} (h : Pk B c R one odd j m0 m1 m2 m3 ma x g) (hn : atR B R n z) (hf : ∀ m ∈ [m0, m1, m2, m3, ma], n ≠ m) : Pk B c (R.set (n - (B.length + 1)) (.lst y)) one odd j m0 m1 m2 m3 ma x g :=
  ⟨h.w.set, hn.set_ne h.a0 (hf _ (by simp)), hn.set_ne h.a1 (hf _ (by simp)), hn.set_ne h.a2 (hf _ (by simp)), hn.set_ne h.a3 (hf _ (by simp)), hn.set_ne h.aa (hf _ (by simp)), h.aj.set⟩
theorem stE {rest : MS} {one odd : D} {x : List Nat} {x2 x3 x4 x6 x7 : Option D} {st : Tp} {R : List Cell} {m0 m1 m2 m3 mw j : Nat} (hs : scrOk B c ns) (o : okS st) (hx : x ∈ wds) (W : Ow B c R one odd)
    (A0 : atR B R m0 (.lst G0)) (A1 : atR B R m1 (.lst (G1 one (wd x)))) (A2 : atR B R m2 (.lst (G2 one))) (A3 : atR B R m3 (.lst (G3 one (wd x)))) (Aw : atR B R mw (.lst (wrongL one odd j))) (Aj : okR B c R (.loc j))
    (k : ∀ x0 x1 x2 x3 x4 x5 x6 x7 x8 x9 x10 x11 x12 x13 x14 x15 x16 x17 x18 x19 x20 st R, okS st → x0 = some c → x1 = some (.loc B.length) → ∃ J, rest (s21 x0 x1 x2 x3 x4 x5 x6 x7 x8 x9 x10 x11 x12 x13 x14 x15 x16 x17 x18 x19 x20) (bT B c st R) = .rt d (B ++ J)) :
    ∃ J, mSeq (lS15 P0) (mSeq (lS16 P0) (mSeq (lS17 P0) (mSeq (lS18 P0) (mSeq (lS19 P0) (mSeq (lS20 P0) (mSeq (lS21 P0) (mSeq (lS22 P0) (mSeq (lS23 P0) (mSeq (lS24 P0) (mSeq (lS25 P0) rest))))))))))
      (s21 (some c) (some (.loc B.length)) x2 x3 x4 (some (wd x)) x6 x7 (some one) (some odd) (some (.tup [.loc m0, .loc m1, .loc m2, .loc m3])) (some kinds1) (some (.loc mw)) none none none none none none none none) (bT B c st R) = .rt d (B ++ J) := by
  obtain ⟨t2, ow, dw⟩ := wd_ok hx
  -- at
  obtain ⟨q0, q1, o1⟩ := pk_ok (ns := ns) (lim := 4) (by decide) o
  have p1 := fun sd h1 => c_pk (R := R) (sd := sd) (ml := mC (.int 4)) hs o (by decide) (by decide) h1 rfl
  generalize (pk ns st 4).1 = y at q0 q1 p1
  generalize (pk ns st 4).2 = st1 at o1 p1
  obtain ⟨a, rfl, ha⟩ := nat_of (n := 4) q0 q1
  refine seq_exB (sd1 := s21 (some c) (some (.loc B.length)) x2 x3 x4 (some (wd x)) x6 x7 (some one) (some odd) (some (.tup [.loc m0, .loc m1, .loc m2, .loc m3])) (some kinds1) (some (.loc mw)) (some (.int (a : Nat))) none none none none none none none) (S1 := bT B c st1 R) (set' (p1 _ rfl)) ?_
  obtain ⟨ma, hma, hga⟩ : ∃ ma, ([.loc m0, .loc m1, .loc m2, .loc m3] : List D)[a]? = some (.loc ma) ∧ atR B R ma (.lst (Gs one (wd x) a)) := by
    match a, ha with
    | 0, _ => exact ⟨m0, rfl, A0⟩
    | 1, _ => exact ⟨m1, rfl, A1⟩
    | 2, _ => exact ⟨m2, rfl, A2⟩
    | 3, _ => exact ⟨m3, rfl, A3⟩
  have hgl := g_len (one := one) (w := wd x) ha
  have htu := tups_at (one := one) (w := wd x) ha
  have hsp := fun (s : Nat) hs v hv => chip_spoilt (s := s) W.t1 t2 ha hs (v := v) hv
  have htw := chip_twice W.t1 t2 ha
  have hlo := fun jj => chip_loose (j := jj) W.t1 t2 ha
  have hgr := fun S (h1 : okd 38 S one = true) h2 => g_rows (w := wd x) h1 h2 ha
  -- spot
  have el : ∀ st sd, sd[10]? = some (some (D.tup [.loc m0, .loc m1, .loc m2, .loc m3])) → sd[13]? = some (some (D.int (a : Nat))) → (mB oLenA (mCons (mBin oIxA (mVar 10) (mVar 13)) mNil)) sd (bT B c st R) = .ok (.int ((Gs one (wd x) a).length : Nat)) (bT B c st R) := fun st sd h10 h13 =>
    mb' (cons' (bin' (var' h10) (var' h13) (ixt hma)) nil') (by rw [oLenA_loc, hga.get])
  obtain ⟨r0, r1, o2⟩ := pk_ok (ns := ns) (lim := ((Gs one (wd x) a).length : Int) + 1) (by omega) o1
  have p2 := fun sd h1 h10 h13 => c_pk (R := R) (sd := sd) (lim := ((Gs one (wd x) a).length : Int) + 1) (ml := mBin oAdd (mB oLenA (mCons (mBin oIxA (mVar 10) (mVar 13)) mNil)) (mC (.int 1))) hs o1 (by omega) (by omega) h1 (bin' (el st1 sd h10 h13) rfl rfl)
  generalize (pk ns st1 (((Gs one (wd x) a).length : Int) + 1)).1 = y2 at r0 r1 p2
  generalize (pk ns st1 (((Gs one (wd x) a).length : Int) + 1)).2 = st2 at o2 p2
  obtain ⟨s, rfl, hs2⟩ := nat_of (n := (Gs one (wd x) a).length + 1) r0 (by omega)
  refine seq_exB (sd1 := s21 (some c) (some (.loc B.length)) x2 x3 x4 (some (wd x)) x6 x7 (some one) (some odd) (some (.tup [.loc m0, .loc m1, .loc m2, .loc m3])) (some kinds1) (some (.loc mw)) (some (.int (a : Nat))) (some (.int (s : Nat))) none none none none none none) (S1 := bT B c st2 R) (set' (p2 _ rfl rfl rfl)) ?_
  -- value
  obtain ⟨u0, u1, o3⟩ := pk_ok (ns := ns) (lim := 8) (by decide) o2
  have p3 := fun sd h1 => c_pk (R := R) (sd := sd) (ml := mC (.int 8)) hs o2 (by decide) (by decide) h1 rfl
  generalize (pk ns st2 8).1 = y3 at u0 u1 p3
  generalize (pk ns st2 8).2 = st3 at o3 p3
  obtain ⟨i, rfl, hi⟩ := nat_of (n := 8) u0 u1
  have hl : i < (wrongL one odd j).length := hi
  have ev : (wrongL one odd j)[i]? = some (wrongL one odd j)[i] := by simp [hl]
  have hm := List.getElem_mem hl
  have hbad := wrong_bad W.t1 t2 W.t2 W.w2 (j := j) ha _ hm
  have hok : ∀ S, okd 38 S one = true → okd 38 S odd = true → okv S (.loc j) = true → _ := fun S h1 h2 h3 => wrong_okd (S := S) h1 h2 h3 _ hm
  generalize (wrongL one odd j)[i] = v at ev hbad hok
  refine seq_exB (sd1 := s21 (some c) (some (.loc B.length)) x2 x3 x4 (some (wd x)) x6 x7 (some one) (some odd) (some (.tup [.loc m0, .loc m1, .loc m2, .loc m3])) (some kinds1) (some (.loc mw)) (some (.int (a : Nat))) (some (.int (s : Nat))) (some v) none none none none none) (S1 := bT B c st3 R) (set' (bin' (d := .loc mw) (S1 := bT B c st2 R) rfl (p3 _ rfl) (ixl Aw.get ev))) ?_
  have hla : a < (tups one (wd x)).length := ha
  have P : Pk B c R one odd j m0 m1 m2 m3 ma x (Gs one (wd x) a) := ⟨W, A0, A1, A2, A3, hga, Aj⟩
  clear A0 A1 A2 A3 hga Aw Aj ev hm hl hi u0 u1 p3 r0 r1 p2 q0 q1 p1 el
  generalize hg : Gs one (wd x) a = g at *
  have add_tup : ∀ {xs ys : List D} {S : List Cell}, xs.length + ys.length ≤ 1000 → oAdd (.tup xs) (.tup ys) S = .ok (.tup (xs ++ ys)) S := fun {xs ys S} hz => by
    have : xs.length + ys.length ≤ sizeLine := line_le (by omega)
    show (if xs.length + ys.length ≤ sizeLine then Res.ok (D.tup (xs ++ ys)) S else .stk) = _
    rw [if_pos this]
  -- spoilt
  refine seq_exB (sd1 := s21 (some c) (some (.loc B.length)) x2 x3 x4 (some (wd x)) x6 x7 (some one) (some odd) (some (.tup [.loc m0, .loc m1, .loc m2, .loc m3])) (some kinds1) (some (.loc mw)) (some (.int (a : Nat))) (some (.int (s : Nat))) (some v) (some (.loc (B.length + 1 + R.length))) none none none none) (S1 := bT B c st3 (R ++ [Cell.lst (tups one (wd x))])) (set' (mk_fresh (lc_rows rfl rfl P.a0.get P.a1.get P.a2.get P.a3.get))) ?_
  have S6 : atR B (R ++ [Cell.lst (tups one (wd x))]) (B.length + 1 + R.length) (.lst (tups one (wd x))) := atR.new 0 rfl
  have P6 := P.app (X := [Cell.lst (tups one (wd x))])
  have F6 := P.fresh
  generalize B.length + 1 + R.length = m6 at S6 F6
  generalize R ++ [Cell.lst (tups one (wd x))] = R6 at S6 P6
  refine seq_exB (sd1 := s21 (some c) (some (.loc B.length)) x2 x3 x4 (some (wd x)) x6 x7 (some one) (some odd) (some (.tup [.loc m0, .loc m1, .loc m2, .loc m3])) (some kinds1) (some (.loc mw)) (some (.int (a : Nat))) (some (.int (s : Nat))) (some v) (some (.loc m6)) none none none none) (S1 := bT B c st3 (R6.set (m6 - (B.length + 1)) (.lst (rowsW one (wd x) a (.tup (g.take s ++ [v] ++ g.drop s)))))) ?_ ?_
  · rw [← S6.set (c := c) (st := st3)]
    have ix : ∀ sd, sd[16]? = some (some (D.loc m6)) → sd[13]? = some (some (D.int (a : Nat))) → (mBin oIxA (mVar 16) (mVar 13)) sd (bT B c st3 R6) = .ok (.tup g) (bT B c st3 R6) := fun sd h1 h2 => bin' (var' h1) (var' h2) (ixl S6.get htu)
    refine asg' (n := m6) (k := a) (xs := tups one (wd x)) (v := .tup (g.take s ++ [v] ++ g.drop s)) (S1 := bT B c st3 R6) ?_ rfl rfl S6.get hla
    refine bin' (d := .tup (g.take s ++ [v])) (e := .tup (g.drop s)) (S1 := bT B c st3 R6) (S2 := bT B c st3 R6) (bin' (d := .tup (g.take s)) (e := .tup [v]) (S1 := bT B c st3 R6) (S2 := bT B c st3 R6) (slice' (ix _ rfl rfl) rfl (part' (i := (s : Nat)) rfl) ?_) rfl (add_tup ?_)) (slice' (ix _ rfl rfl) (part' (i := (s : Nat)) rfl) rfl ?_) (add_tup ?_)
    · rw [oSl_tup, cut_take]
    · rw [List.length_take]; simp; omega
    · rw [oSl_tup, cut_drop]
    · rw [List.length_append, List.length_take, List.length_drop]; simp; omega
  have S6' := S6.set_self (y := .lst (rowsW one (wd x) a (.tup (g.take s ++ [v] ++ g.drop s))))
  replace P6 := P6.set (y := rowsW one (wd x) a (.tup (g.take s ++ [v] ++ g.drop s))) S6 F6
  generalize R6.set (m6 - (B.length + 1)) (.lst (rowsW one (wd x) a (.tup (g.take s ++ [v] ++ g.drop s)))) = R6' at S6' P6
  clear S6 F6 P R6 W R
  -- twice
  refine seq_exB (sd1 := s21 (some c) (some (.loc B.length)) x2 x3 x4 (some (wd x)) x6 x7 (some one) (some odd) (some (.tup [.loc m0, .loc m1, .loc m2, .loc m3])) (some kinds1) (some (.loc mw)) (some (.int (a : Nat))) (some (.int (s : Nat))) (some v) (some (.loc m6)) (some (.loc (B.length + 1 + R6'.length))) none none none) (S1 := bT B c st3 (R6' ++ [Cell.lst (tups one (wd x))])) (set' (mk_fresh (lc_rows rfl rfl P6.a0.get P6.a1.get P6.a2.get P6.a3.get))) ?_
  have S7 : atR B (R6' ++ [Cell.lst (tups one (wd x))]) (B.length + 1 + R6'.length) (.lst (tups one (wd x))) := atR.new 0 rfl
  have P7 := P6.app (X := [Cell.lst (tups one (wd x))])
  have F7 := P6.fresh
  have n67 : B.length + 1 + R6'.length ≠ m6 := fun e => by have := S6'.lt; omega
  replace S6' := S6'.app (X := [Cell.lst (tups one (wd x))])
  generalize B.length + 1 + R6'.length = m7 at S7 F7 n67
  generalize R6' ++ [Cell.lst (tups one (wd x))] = R7 at S7 P7 S6'
  refine seq_exB (sd1 := s21 (some c) (some (.loc B.length)) x2 x3 x4 (some (wd x)) x6 x7 (some one) (some odd) (some (.tup [.loc m0, .loc m1, .loc m2, .loc m3])) (some kinds1) (some (.loc mw)) (some (.int (a : Nat))) (some (.int (s : Nat))) (some v) (some (.loc m6)) (some (.loc m7)) none none none) (S1 := bT B c st3 (R7.set (m7 - (B.length + 1)) (.lst (rowsW one (wd x) a (.tup (g ++ g.take 1)))))) ?_ ?_
  · rw [← S7.set (c := c) (st := st3)]
    have ix : ∀ sd, sd[17]? = some (some (D.loc m7)) → sd[13]? = some (some (D.int (a : Nat))) → (mBin oIxA (mVar 17) (mVar 13)) sd (bT B c st3 R7) = .ok (.tup g) (bT B c st3 R7) := fun sd h1 h2 => bin' (var' h1) (var' h2) (ixl S7.get htu)
    refine asg' (n := m7) (k := a) (xs := tups one (wd x)) (v := .tup (g ++ g.take 1)) (S1 := bT B c st3 R7) ?_ rfl rfl S7.get hla
    refine bin' (d := .tup g) (e := .tup (g.take 1)) (S1 := bT B c st3 R7) (S2 := bT B c st3 R7) (ix _ rfl rfl) (slice' (ix _ rfl rfl) rfl (part' (i := ((1 : Nat) : Int)) rfl) ?_) (add_tup ?_)
    · rw [oSl_tup, cut_take]
    · rw [List.length_take]; omega
  have S7' := S7.set_self (y := .lst (rowsW one (wd x) a (.tup (g ++ g.take 1))))
  replace S6' := S7.set_ne (y := .lst (rowsW one (wd x) a (.tup (g ++ g.take 1)))) S6' n67
  replace P7 := P7.set (y := rowsW one (wd x) a (.tup (g ++ g.take 1))) S7 F7
  generalize R7.set (m7 - (B.length + 1)) (.lst (rowsW one (wd x) a (.tup (g ++ g.take 1)))) = R7' at S7' P7 S6'
  clear S7 F7 P6 R7 R6' n67
  -- loose
  refine seq_exB (sd1 := s21 (some c) (some (.loc B.length)) x2 x3 x4 (some (wd x)) x6 x7 (some one) (some odd) (some (.tup [.loc m0, .loc m1, .loc m2, .loc m3])) (some kinds1) (some (.loc mw)) (some (.int (a : Nat))) (some (.int (s : Nat))) (some v) (some (.loc m6)) (some (.loc m7)) (some (.loc (B.length + 1 + R7'.length))) none none) (S1 := bT B c st3 (R7' ++ [Cell.lst (tups one (wd x))])) (set' (mk_fresh (lc_rows rfl rfl P7.a0.get P7.a1.get P7.a2.get P7.a3.get))) ?_
  have S8 : atR B (R7' ++ [Cell.lst (tups one (wd x))]) (B.length + 1 + R7'.length) (.lst (tups one (wd x))) := atR.new 0 rfl
  have P8 := P7.app (X := [Cell.lst (tups one (wd x))])
  have F8 := P7.fresh
  have n78 : B.length + 1 + R7'.length ≠ m7 := fun e => by have := S7'.lt; omega
  have n68 : B.length + 1 + R7'.length ≠ m6 := fun e => by have := S6'.lt; omega
  replace S6' := S6'.app (X := [Cell.lst (tups one (wd x))])
  replace S7' := S7'.app (X := [Cell.lst (tups one (wd x))])
  generalize B.length + 1 + R7'.length = m8 at S8 F8 n78 n68
  generalize R7' ++ [Cell.lst (tups one (wd x))] = R8 at S8 P8 S6' S7'
  have S8a := S8.app (X := [Cell.lst g])
  have S9 : atR B (R8 ++ [Cell.lst g]) (B.length + 1 + R8.length) (.lst g) := atR.new 0 rfl
  have n89 : m8 ≠ B.length + 1 + R8.length := fun e => by have := S8.lt; omega
  refine seq_exB (sd1 := s21 (some c) (some (.loc B.length)) x2 x3 x4 (some (wd x)) x6 x7 (some one) (some odd) (some (.tup [.loc m0, .loc m1, .loc m2, .loc m3])) (some kinds1) (some (.loc mw)) (some (.int (a : Nat))) (some (.int (s : Nat))) (some v) (some (.loc m6)) (some (.loc m7)) (some (.loc m8)) none none) (S1 := bT B c st3 ((R8 ++ [Cell.lst g]).set (m8 - (B.length + 1)) (.lst (rowsW one (wd x) a (.loc (B.length + 1 + R8.length)))))) ?_ ?_
  · rw [← S8a.set (c := c) (st := st3)]
    refine asg' (n := m8) (k := a) (xs := tups one (wd x)) (v := .loc (B.length + 1 + R8.length)) (S1 := bT B c st3 (R8 ++ [Cell.lst g])) ?_ rfl rfl S8a.get hla
    refine mb' (ds := [.tup g]) (S1 := bT B c st3 R8) (cons' (bin' (d := .loc m8) (e := .int (a : Nat)) (S1 := bT B c st3 R8) (S2 := bT B c st3 R8) rfl rfl (ixl S8.get htu)) nil') ?_
    show Res.ok (D.loc (bT B c st3 R8).length) (bT B c st3 R8 ++ [Cell.lst g]) = _
    rw [bT_len, bT_app]
  have P9 := P8.app (X := [Cell.lst g])
  replace S6' := S6'.app (X := [Cell.lst g])
  replace S7' := S7'.app (X := [Cell.lst g])
  have S8' := S8a.set_self (y := .lst (rowsW one (wd x) a (.loc (B.length + 1 + R8.length))))
  replace S6' := S8a.set_ne (y := .lst (rowsW one (wd x) a (.loc (B.length + 1 + R8.length)))) S6' n68
  replace S7' := S8a.set_ne (y := .lst (rowsW one (wd x) a (.loc (B.length + 1 + R8.length)))) S7' n78
  replace S9 := S8a.set_ne (y := .lst (rowsW one (wd x) a (.loc (B.length + 1 + R8.length)))) S9 n89
  replace P9 := P9.set (y := rowsW one (wd x) a (.loc (B.length + 1 + R8.length))) S8a F8
  generalize (R8 ++ [Cell.lst g]).set (m8 - (B.length + 1)) (.lst (rowsW one (wd x) a (.loc (B.length + 1 + R8.length)))) = R9 at S8' S6' S7' S9 P9
  generalize B.length + 1 + R8.length = m9 at S8' S9
  clear S8 S8a F8 P8 P7 R8 R7' n68 n78 n89
  -- told
  have k1 : okd 38 (bT B c st3 R9) one = true := okd_of (P9.w.o1 _) (by have := P9.w.d1; omega)
  have k2 : okd 38 (bT B c st3 R9) (wd x) = true := okd_of (ow _) (by omega)
  have k3 : okd 38 (bT B c st3 R9) odd = true := okd_of (P9.w.o2 _) (by have := P9.w.d2; omega)
  have kv := hok _ k1 k3 (P9.aj _)
  have kg := hgr _ k1 k2
  have kx : okd 41 (bT B c st3 R9) (.tup (g.take s ++ [v] ++ g.drop s)) = true := by
    refine okd_tupOf (n := 40) (by rw [List.length_append, List.length_append, List.length_take, List.length_drop]; simp; omega) fun e he => ?_
    rcases List.mem_append.mp he with he | he
    · rcases List.mem_append.mp he with he | he
      · exact kg e (List.mem_of_mem_take he)
      · rw [List.mem_singleton] at he
        rw [he]
        exact kv
    · exact kg e (List.mem_of_mem_drop he)
  have kt : okd 41 (bT B c st3 R9) (.tup (g ++ g.take 1)) = true := by
    refine okd_tupOf (n := 40) (by rw [List.length_append, List.length_take]; omega) fun e he => ?_
    rcases List.mem_append.mp he with he | he
    · exact kg e he
    · exact kg e (List.mem_of_mem_take he)
  have kl : okd 41 (bT B c st3 R9) (.loc m9) = true := okd_of (okR.loc S9 _) (Nat.zero_le _)
  have e1 := call_ok (okC_W (P0 := P0) (nm := .str (cs "c")) rfl k1 k2 ha kx)
  have e2 := call_ok (okC_W (P0 := P0) (nm := .str (cs "c")) rfl k1 k2 ha kt)
  have e3 := call_ok (okC_W (P0 := P0) (nm := .str (cs "c")) rfl k1 k2 ha kl)
  have e4 := call_ok (okC_W (P0 := P0) (nm := .str (cs "C")) rfl k1 k2 ha kl)
  rw [hsp s (by omega) v hbad] at e1
  rw [htw] at e2
  rw [hlo m9] at e3
  rw [chip_C P9.w.t1 t2 _ (by simp [rowsW])] at e4
  have one_call : ∀ (sd : Sl) (nm : List Nat) (i m : Nat) (L : List D) (r : D), sd[i]? = some (some (.loc m)) → atR B R9 m (.lst L) → L.length ≤ 4 → m__law_call P0 [.str (cs "chip"), .tup (.str nm :: L)] (bT B c st3 R9) = .ok r (bT B c st3 R9) →
      (mCall (m__law_call P0) (mCons (mC (.str (cs "chip"))) (mCons (mBin oAdd (mTup (mCons (mC (.str nm)) mNil)) (mB oTupC (mCons (mVar i) mNil))) mNil))) sd (bT B c st3 R9) = .ok r (bT B c st3 R9) := by
    intro sd nm i m L r h1 h2 h3 h4
    refine call' (cons' (S1 := bT B c st3 R9) rfl (cons' (bin' (d := .tup [.str nm]) (e := .tup L) (S1 := bT B c st3 R9) (S2 := bT B c st3 R9) (tup' (cons' rfl nil') (by simp)) (mb' (cons' (var' h1) nil') ?_) (add_tup (by simp; omega))) nil')) h4
    show (match seqD (bT B c st3 R9) (.loc m) with | some xs => Res.ok (D.tup xs) (bT B c st3 R9) | none => .stk) = _
    rw [seqD_loc]
    unfold cellL
    rw [h2.get]
  have lw : ∀ y, (rowsW one (wd x) a y).length ≤ 4 := fun y => by simp [rowsW]
  refine seq_exB (sd1 := s21 (some c) (some (.loc B.length)) x2 x3 x4 (some (wd x)) x6 x7 (some one) (some odd) (some (.tup [.loc m0, .loc m1, .loc m2, .loc m3])) (some kinds1) (some (.loc mw)) (some (.int (a : Nat))) (some (.int (s : Nat))) (some v) (some (.loc m6)) (some (.loc m7)) (some (.loc m8)) (some (.loc (B.length + 1 + R9.length))) none) (S1 := bT B c st3 (R9 ++ [Cell.lst (dueL a s g.length)]))
    (set' (mk_lst (ds := dueL a s g.length) (cons' (one_call _ _ 16 _ _ _ rfl S6' (lw _) e1) (cons' (one_call _ _ 17 _ _ _ rfl S7' (lw _) e2) (cons' (one_call _ _ 18 _ _ _ rfl S8' (lw _) e3) (cons' (one_call _ _ 18 _ _ _ rfl S8' (lw _) e4) nil')))) (by simp [dueL]))) ?_
  have S10 : atR B (R9 ++ [Cell.lst (dueL a s g.length)]) (B.length + 1 + R9.length) (.lst (dueL a s g.length)) := atR.new 0 rfl
  have P10 := P9.app (X := [Cell.lst (dueL a s g.length)])
  generalize B.length + 1 + R9.length = m10 at S10
  generalize R9 ++ [Cell.lst (dueL a s g.length)] = R10 at S10 P10
  have S11 : atR B (R10 ++ [Cell.lst (dueL a s g.length)]) (B.length + 1 + R10.length) (.lst (dueL a s g.length)) := atR.new 0 rfl
  refine seq_exB (sd1 := s21 (some c) (some (.loc B.length)) x2 x3 x4 (some (wd x)) x6 x7 (some one) (some odd) (some (.tup [.loc m0, .loc m1, .loc m2, .loc m3])) (some kinds1) (some (.loc mw)) (some (.int (a : Nat))) (some (.int (s : Nat))) (some v) (some (.loc m6)) (some (.loc m7)) (some (.loc m8)) (some (.loc m10)) none) (S1 := bT B c st3 (R10 ++ [Cell.lst (dueL a s g.length)])) ?_ (k _ _ _ _ _ _ _ _ _ _ _ _ _ _ _ _ _ _ _ _ _ _ _ o3 rfl rfl)
  generalize hsd : s21 (some c) (some (.loc B.length)) x2 x3 x4 (some (wd x)) x6 x7 (some one) (some odd) (some (.tup [.loc m0, .loc m1, .loc m2, .loc m3])) (some kinds1) (some (.loc mw)) (some (.int (a : Nat))) (some (.int (s : Nat))) (some v) (some (.loc m6)) (some (.loc m7)) (some (.loc m8)) (some (.loc m10)) none = sd
  have h10 : sd[10]? = some (some (.tup [.loc m0, .loc m1, .loc m2, .loc m3])) := by rw [← hsd]; rfl
  have h11 : sd[11]? = some (some kinds1) := by rw [← hsd]; rfl
  have h13 : sd[13]? = some (some (.int (a : Nat))) := by rw [← hsd]; rfl
  have h14 : sd[14]? = some (some (.int (s : Nat))) := by rw [← hsd]; rfl
  have h19 : sd[19]? = some (some (.loc m10)) := by rw [← hsd]; rfl
  have ek : (mBin oIxA (mVar 11) (mVar 13)) sd (bT B c st3 R10) = .ok (.str (kd a)) (bT B c st3 R10) := bin' (var' h11) (var' h13) (ixt (kd_at ha))
  have eln : (mB oLenA (mCons (mBin oIxA (mVar 10) (mVar 13)) mNil)) sd (bT B c st3 R10) = .ok (.int (g.length : Nat)) (bT B c st3 R10) := mb' (cons' (bin' (var' h10) (var' h13) (ixt hma)) nil') (by rw [oLenA_loc, P10.aa.get])
  obtain ⟨dp, dd⟩ := due_pln a s g.length
  refine if_f (not' (b := true) (tru' (call' (cons' (var' h19) (cons' (mk_lst (ds := dueL a s g.length) (cons' (tup' (cons' rfl (cons' (tup' (cons' ek (cons' (var' h14) nil')) (by simp)) nil')) (by simp)) (cons' (tup' (cons' rfl (cons' (tup' (cons' ek (cons' eln nil')) (by simp)) nil')) (by simp)) (cons' (tup' (cons' rfl (cons' (tup' (cons' ek rfl) (by simp)) nil')) (by simp)) rfl))) (by simp [dueL])) nil')) (same_t (same_lst S10.app.get S11.get (by simp [dueL]) dp dd)))))
end
end K00

namespace K00
open PySem PySem.Spec PyProof.Rows L2 Fx
theorem okC_net {P0 : Addr} {S : List Cell} {i l a o : D} (hS : S[0]? = some (.tab P0 q_Net)) (h1 : okv S i = true) (h2 : okv S l = true) (h3 : okv S a = true) (h4 : okv S o = true) : okC P0 S (cs "net") (.tup [i, l, a, o]) = true := by
  unfold okC
  rw [if_neg (by decide), if_neg (by decide)]
  simp [hS, h1, h2, h3, h4]
theorem okC_N {P0 : Addr} {S : List Cell} (hS : S[0]? = some (.tab P0 q_Net)) {a : Nat} (ha : a < 4) {y : D} (hy : okv S y = true) : okC P0 S (cs "net") (.tup (N0.take a ++ [y] ++ N0.drop (a + 1))) = true := by
  match a, ha with
  | 0, _ => exact okC_net hS hy rfl rfl rfl
  | 1, _ => exact okC_net hS rfl hy rfl rfl
  | 2, _ => exact okC_net hS rfl rfl hy rfl
  | 3, _ => exact okC_net hS rfl rfl rfl hy
theorem nkd_at {a : Nat} (ha : a < 4) : ([.str (cs "in"), .str (cs "latch"), .str (cs "and"), .str (cs "out")] : List D)[a]? = some (.str (nkd a)) := by
  match a, ha with
  | 0, _ => rfl
  | 1, _ => rfl
  | 2, _ => rfl
  | 3, _ => rfl
def ndue (a : Nat) : List D := [.tup [.str (cs "InvalidNet"), .tup [.str (nkd a), .int 0]], .tup [.str (cs "InvalidNet"), .tup [.str (nkd a), .non]]]
theorem ndue_pln {a : Nat} (ha : a < 4) : plnL (ndue a) = true ∧ depL (ndue a) < 29 := by
  match a, ha with
  | 0, _ => exact ⟨rfl, Nat.lt_of_le_of_lt (Nat.le_of_ble_eq_true rfl) (by decide : 2 < 29)⟩
  | 1, _ => exact ⟨rfl, Nat.lt_of_le_of_lt (Nat.le_of_ble_eq_true rfl) (by decide : 2 < 29)⟩
  | 2, _ => exact ⟨rfl, Nat.lt_of_le_of_lt (Nat.le_of_ble_eq_true rfl) (by decide : 2 < 29)⟩
  | 3, _ => exact ⟨rfl, Nat.lt_of_le_of_lt (Nat.le_of_ble_eq_true rfl) (by decide : 2 < 29)⟩
def wlist (j : Nat) : List D := [.tup (nwr j 0), .tup (nwr j 1), .tup (nwr j 2), .tup (nwr j 3)]
theorem wlist_at {j a : Nat} (ha : a < 4) : (wlist j)[a]? = some (.tup (nwr j a)) := by
  match a, ha with
  | 0, _ => rfl
  | 1, _ => rfl
  | 2, _ => rfl
  | 3, _ => rfl
theorem nwr_len {j a : Nat} (ha : a < 4) : 1 ≤ (nwr j a).length ∧ (nwr j a).length ≤ 4 := by
  match a, ha with
  | 0, _ => exact ⟨Nat.le_of_ble_eq_true rfl, Nat.le_of_ble_eq_true rfl⟩
  | 1, _ => exact ⟨Nat.le_of_ble_eq_true rfl, Nat.le_of_ble_eq_true rfl⟩
  | 2, _ => exact ⟨Nat.le_of_ble_eq_true rfl, Nat.le_of_ble_eq_true rfl⟩
  | 3, _ => exact ⟨Nat.le_of_ble_eq_true rfl, Nat.le_of_ble_eq_true rfl⟩
theorem nwr_ok {S : List Cell} {j a : Nat} (ha : a < 4) (hj : okv S (.loc j) = true) : ∀ v ∈ nwr j a, okv S v = true := by
  intro v hv
  match a, ha with
  | 0, _ =>
    simp only [nwr, List.mem_cons, List.not_mem_nil, or_false] at hv
    rcases hv with rfl | rfl | rfl <;> first | exact hj | rfl
  | 1, _ =>
    simp only [nwr, List.mem_cons, List.not_mem_nil, or_false] at hv
    rcases hv with rfl | rfl | rfl | rfl <;> rfl
  | 2, _ =>
    simp only [nwr, List.mem_cons, List.not_mem_nil, or_false] at hv
    rcases hv with rfl | rfl | rfl | rfl <;> rfl
  | 3, _ =>
    simp only [nwr, List.mem_cons, List.not_mem_nil, or_false] at hv
    rcases hv with rfl | rfl | rfl | rfl <;> rfl
/-- rows[at]: the tuple that is made a list -/
theorem n_at {a : Nat} (ha : a < 4) : ∃ l, N0[a]? = some (.tup l) := by
  match a, ha with
  | 0, _ => exact ⟨_, rfl⟩
  | 1, _ => exact ⟨_, rfl⟩
  | 2, _ => exact ⟨_, rfl⟩
  | 3, _ => exact ⟨_, rfl⟩
section
variable {P0 : Addr} {B : List Cell} {c : D} {ns : List Int}
abbrev kinds2 : D := .tup [.str (cs "in"), .str (cs "latch"), .str (cs "and"), .str (cs "out")]
theorem stF {x0 x2 x3 x4 x5 x6 x7 x8 x9 x10 x11 x12 x13 x14 x15 x16 x17 x18 x19 x20 : Option D} {st : Tp} {R : List Cell} (hs : scrOk B c ns) (o : okS st) (hB : B[0]? = some (.tab P0 q_Net)) :
    ∃ J, mSeq (lS26 P0) (mSeq (lS27 P0) (mSeq (lS28 P0) (mSeq (lS29 P0) (mSeq (lS30 P0) (mSeq (lS31 P0) (mSeq (lS32 P0) (lS33 P0))))))) (s21 x0 (some (.loc B.length)) x2 x3 x4 x5 x6 x7 x8 x9 x10 x11 x12 x13 x14 x15 x16 x17 x18 x19 x20) (bT B c st R) = .rt (.bl true) (B ++ J) := by
  have hB0 := (List.getElem?_eq_some_iff.mp hB).1
  have hS : ∀ st R, (bT B c st R)[0]? = some (.tab P0 q_Net) := fun st R => by rw [bT_B hB0]; exact hB
  have add_tup : ∀ {xs ys : List D} {S : List Cell}, xs.length + ys.length ≤ 1000 → oAdd (.tup xs) (.tup ys) S = .ok (.tup (xs ++ ys)) S := fun {xs ys S} hz => by
    have : xs.length + ys.length ≤ sizeLine := line_le (by omega)
    show (if xs.length + ys.length ≤ sizeLine then Res.ok (D.tup (xs ++ ys)) S else .stk) = _
    rw [if_pos this]
  refine seq_exB (sd1 := s21 x0 (some (.loc B.length)) x2 x3 x4 x5 x6 x7 x8 x9 (some (.tup N0)) x11 x12 x13 x14 x15 x16 x17 x18 x19 x20) (S1 := bT B c st R) rfl ?_
  have hpw : ∀ sd S, (mBin oPow (mC (.int 10)) (mC (.int 9))) sd S = .ok (.int 1000000000) S := fun sd S => rfl
  refine seq_exB (sd1 := s21 x0 (some (.loc B.length)) x2 x3 x4 x5 x6 x7 x8 x9 (some (.tup N0)) (some kinds2) (some (.loc (B.length + 1 + (R ++ [Cell.lst [.str (cs "x")]]).length))) x13 x14 x15 x16 x17 x18 x19 x20) (S1 := bT B c st (R ++ [Cell.lst [.str (cs "x")]] ++ [Cell.lst (wlist (B.length + 1 + R.length))]))
    (par' (cons' (d := kinds2) (S1 := bT B c st R) rfl (cons' (mk_lst (ds := wlist (B.length + 1 + R.length)) (cons' (tup' (ds := nwr (B.length + 1 + R.length) 0) (cons' (S1 := bT B c st R) rfl (cons' (S1 := bT B c st R) rfl (cons' (mk_lst (st := st) (R := R) (ds := [.str (cs "x")]) rfl (by simp)) rfl))) (by simp [nwr])) rfl) (by simp [wlist])) nil'))) ?_
  have Aj : atR B (R ++ [Cell.lst [.str (cs "x")]] ++ [Cell.lst (wlist (B.length + 1 + R.length))]) (B.length + 1 + R.length) (.lst [.str (cs "x")]) := (atR.new 0 rfl).app
  have Aw : atR B (R ++ [Cell.lst [.str (cs "x")]] ++ [Cell.lst (wlist (B.length + 1 + R.length))]) (B.length + 1 + (R ++ [Cell.lst [.str (cs "x")]]).length) (.lst (wlist (B.length + 1 + R.length))) := atR.new 0 rfl
  generalize B.length + 1 + (R ++ [Cell.lst [.str (cs "x")]]).length = mw at Aw
  generalize R ++ [Cell.lst [.str (cs "x")]] ++ [Cell.lst (wlist (B.length + 1 + R.length))] = R1 at Aj Aw
  generalize B.length + 1 + R.length = j at Aj Aw
  have e0 := call_ok (P0 := P0) (S := bT B c st R1) (kind := cs "net") (v := .tup N0) (okC_net (hS _ _) rfl rfl rfl rfl)
  rw [net_good] at e0
  refine seq_exB (if_f (S1 := bT B c st R1) (tst' (bin' (d := .non) (e := .non) (S1 := bT B c st R1) (S2 := bT B c st R1) (call' (ds := [.str (cs "net"), .tup N0]) (S1 := bT B c st R1) rfl e0) rfl rfl))) ?_
  -- at
  obtain ⟨q0, q1, o1⟩ := pk_ok (ns := ns) (lim := 4) (by decide) o
  have p1 := fun sd h1 => c_pk (R := R1) (sd := sd) (ml := mC (.int 4)) hs o (by decide) (by decide) h1 rfl
  generalize (pk ns st 4).1 = y at q0 q1 p1
  generalize (pk ns st 4).2 = st1 at o1 p1
  obtain ⟨a, rfl, ha⟩ := nat_of (n := 4) q0 q1
  refine seq_exB (sd1 := s21 x0 (some (.loc B.length)) x2 x3 x4 x5 x6 x7 x8 x9 (some (.tup N0)) (some kinds2) (some (.loc mw)) (some (.int (a : Nat))) x14 x15 x16 x17 x18 x19 x20) (S1 := bT B c st1 R1) (set' (p1 _ rfl)) ?_
  have hwl := nwr_len (j := j) ha
  have hwa := wlist_at (j := j) ha
  have hwk := fun S h => nwr_ok (S := S) (j := j) ha h
  have hns := net_spoilt (j := j) ha
  have hnl := fun j => net_loose (j := j) ha
  have hkd := nkd_at ha
  obtain ⟨dp, dd⟩ := ndue_pln ha
  obtain ⟨l, hl⟩ := n_at ha
  have hC := fun S hS y hy => okC_N (P0 := P0) (S := S) hS ha (y := y) hy
  have hla : (N0.take a).length ≤ 4 ∧ (N0.drop (a + 1)).length ≤ 4 := ⟨by rw [List.length_take]; exact Nat.le_trans (Nat.min_le_right _ _) (Nat.le_of_ble_eq_true rfl), by rw [List.length_drop]; exact Nat.le_trans (Nat.sub_le _ _) (Nat.le_of_ble_eq_true rfl)⟩
  generalize nwr j a = L at hwl hwa hwk hns
  -- value
  have ew : ∀ st sd, sd[12]? = some (some (D.loc mw)) → sd[13]? = some (some (D.int (a : Nat))) → (mBin oIxA (mVar 12) (mVar 13)) sd (bT B c st R1) = .ok (.tup L) (bT B c st R1) := fun st sd h1 h2 => bin' (var' h1) (var' h2) (ixl Aw.get hwa)
  obtain ⟨r0, r1, o2⟩ := pk_ok (ns := ns) (lim := (L.length : Int)) (by omega) o1
  have p2 := fun sd h1 h12 h13 => c_pk (R := R1) (sd := sd) (lim := (L.length : Int)) (ml := mB oLenA (mCons (mBin oIxA (mVar 12) (mVar 13)) mNil)) hs o1 (by omega) (by omega) h1 (mb' (cons' (ew st1 sd h12 h13) nil') (oLenA_tup L))
  generalize (pk ns st1 (L.length : Int)).1 = y2 at r0 r1 p2
  generalize (pk ns st1 (L.length : Int)).2 = st2 at o2 p2
  obtain ⟨i, rfl, hi⟩ := nat_of (n := L.length) r0 r1
  have ev : L[i]? = some L[i] := by simp [hi]
  have hm := List.getElem_mem hi
  generalize L[i] = v at ev hm
  refine seq_exB (sd1 := s21 x0 (some (.loc B.length)) x2 x3 x4 x5 x6 x7 x8 x9 (some (.tup N0)) (some kinds2) (some (.loc mw)) (some (.int (a : Nat))) x14 (some v) x16 x17 x18 x19 x20) (S1 := bT B c st2 R1) (set' (bin' (ew st1 _ rfl rfl) (p2 _ rfl rfl rfl) (ixt ev))) ?_
  -- spoilt
  have tk : ∀ sd S, sd[10]? = some (some (D.tup N0)) → sd[13]? = some (some (D.int (a : Nat))) → (mSlice (mVar 10) mNoPart (mPart (mVar 13))) sd S = .ok (.tup (N0.take a)) S := fun sd S h1 h2 => slice' (var' h1) rfl (part' (var' h2)) (by rw [oSl_tup, cut_take])
  have dk : ∀ sd S, sd[10]? = some (some (D.tup N0)) → sd[13]? = some (some (D.int (a : Nat))) → (mSlice (mVar 10) (mPart (mBin oAdd (mVar 13) (mC (.int 1)))) mNoPart) sd S = .ok (.tup (N0.drop (a + 1))) S := fun sd S h1 h2 => slice' (var' h1) (part' (i := ((a + 1 : Nat) : Int)) (bin' (var' h2) rfl rfl)) rfl (by rw [oSl_tup, cut_drop])
  refine seq_exB (sd1 := s21 x0 (some (.loc B.length)) x2 x3 x4 x5 x6 x7 x8 x9 (some (.tup N0)) (some kinds2) (some (.loc mw)) (some (.int (a : Nat))) x14 (some v) (some (.tup (N0.take a ++ [.tup [v]] ++ N0.drop (a + 1)))) x17 x18 x19 x20) (S1 := bT B c st2 R1)
    (set' (bin' (d := .tup (N0.take a ++ [.tup [v]])) (S1 := bT B c st2 R1) (bin' (d := .tup (N0.take a)) (e := .tup [.tup [v]]) (S1 := bT B c st2 R1) (S2 := bT B c st2 R1) (tk _ _ rfl rfl) rfl (add_tup (by show (N0.take a).length + 1 ≤ 1000; omega))) (dk _ _ rfl rfl) (add_tup (by rw [List.length_append, List.length_singleton]; omega)))) ?_
  -- told
  have kv : okv (bT B c st2 R1) (.tup [v]) = true := by
    have := hwk (bT B c st2 R1) (okR.loc Aj st2) v hm
    rw [okv, okvL, okvL, this]
    rfl
  have e1 := call_ok (hC _ (hS st2 R1) _ kv)
  rw [hns v hm] at e1
  have Al : atR B (R1 ++ [Cell.lst l]) (B.length + 1 + R1.length) (.lst l) := atR.new 0 rfl
  have e2 := call_ok (hC _ (hS st2 (R1 ++ [Cell.lst l])) _ (okR.loc Al st2))
  rw [hnl] at e2
  have c1 : ∀ sd, sd[16]? = some (some (D.tup (N0.take a ++ [.tup [v]] ++ N0.drop (a + 1)))) → (mCall (m__law_call P0) (mCons (mC (.str (cs "net"))) (mCons (mVar 16) mNil))) sd (bT B c st2 R1) = .ok (.tup [.str (cs "InvalidNet"), .tup [.str (nkd a), .int 0]]) (bT B c st2 R1) := fun sd h => call' (cons' rfl (cons' (var' h) nil')) e1
  have c2 : ∀ sd, sd[10]? = some (some (D.tup N0)) → sd[13]? = some (some (D.int (a : Nat))) → (mCall (m__law_call P0) (mCons (mC (.str (cs "net"))) (mCons (mBin oAdd (mBin oAdd (mSlice (mVar 10) mNoPart (mPart (mVar 13))) (mTup (mCons (mB oListC (mCons (mBin oIxA (mVar 10) (mVar 13)) mNil)) mNil))) (mSlice (mVar 10) (mPart (mBin oAdd (mVar 13) (mC (.int 1)))) mNoPart)) mNil))) sd (bT B c st2 R1) = .ok (.tup [.str (cs "InvalidNet"), .tup [.str (nkd a), .non]]) (bT B c st2 (R1 ++ [Cell.lst l])) := by
    intro sd h1 h2
    have li : (mB oListC (mCons (mBin oIxA (mVar 10) (mVar 13)) mNil)) sd (bT B c st2 R1) = .ok (.loc (B.length + 1 + R1.length)) (bT B c st2 (R1 ++ [Cell.lst l])) := by
      refine mb' (ds := [.tup l]) (S1 := bT B c st2 R1) (cons' (bin' (var' h1) (var' h2) (ixt hl)) nil') ?_
      show Res.ok (D.loc (bT B c st2 R1).length) (bT B c st2 R1 ++ [Cell.lst l]) = _
      rw [bT_len, bT_app]
    exact call' (cons' (S1 := bT B c st2 R1) rfl (cons' (bin' (d := .tup (N0.take a ++ [.loc (B.length + 1 + R1.length)])) (bin' (tk _ _ h1 h2) (tup' (cons' li nil') (by simp)) (add_tup (by show (N0.take a).length + 1 ≤ 1000; omega))) (dk _ _ h1 h2) (add_tup (by rw [List.length_append, List.length_singleton]; omega))) nil')) e2
  refine seq_exB (sd1 := s21 x0 (some (.loc B.length)) x2 x3 x4 x5 x6 x7 x8 x9 (some (.tup N0)) (some kinds2) (some (.loc mw)) (some (.int (a : Nat))) x14 (some v) (some (.tup (N0.take a ++ [.tup [v]] ++ N0.drop (a + 1)))) x17 x18 (some (.loc (B.length + 1 + (R1 ++ [Cell.lst l]).length))) x20) (S1 := bT B c st2 (R1 ++ [Cell.lst l] ++ [Cell.lst (ndue a)])) (set' (mk_lst (ds := ndue a) (cons' (c1 _ rfl) (cons' (c2 _ rfl rfl) nil')) (by simp [ndue]))) ?_
  have S10 : atR B (R1 ++ [Cell.lst l] ++ [Cell.lst (ndue a)]) (B.length + 1 + (R1 ++ [Cell.lst l]).length) (.lst (ndue a)) := atR.new 0 rfl
  generalize B.length + 1 + (R1 ++ [Cell.lst l]).length = m10 at S10
  generalize R1 ++ [Cell.lst l] ++ [Cell.lst (ndue a)] = R2 at S10
  have S11 : atR B (R2 ++ [Cell.lst (ndue a)]) (B.length + 1 + R2.length) (.lst (ndue a)) := atR.new 0 rfl
  replace S10 := S10.app (X := [Cell.lst (ndue a)])
  generalize hsd : s21 x0 (some (.loc B.length)) x2 x3 x4 x5 x6 x7 x8 x9 (some (.tup N0)) (some kinds2) (some (.loc mw)) (some (.int (a : Nat))) x14 (some v) (some (.tup (N0.take a ++ [.tup [v]] ++ N0.drop (a + 1)))) x17 x18 (some (.loc m10)) x20 = sd
  have h11 : sd[11]? = some (some kinds2) := by rw [← hsd]; rfl
  have h13 : sd[13]? = some (some (.int (a : Nat))) := by rw [← hsd]; rfl
  have h19 : sd[19]? = some (some (.loc m10)) := by rw [← hsd]; rfl
  have ek : (mBin oIxA (mVar 11) (mVar 13)) sd (bT B c st2 R2) = .ok (.str (nkd a)) (bT B c st2 R2) := bin' (var' h11) (var' h13) (ixt hkd)
  have fin : (mCall (m_same 30) (mCons (mVar 19) (mCons (mLst (mCons (mTup (mCons (mC (.str (cs "InvalidNet"))) (mCons (mTup (mCons (mBin oIxA (mVar 11) (mVar 13)) (mCons (mC (.int 0)) mNil))) mNil))) (mCons (mTup (mCons (mC (.str (cs "InvalidNet"))) (mCons (mTup (mCons (mBin oIxA (mVar 11) (mVar 13)) (mCons (mC .non) mNil))) mNil))) mNil))) mNil))) sd (bT B c st2 R2) = .ok (.bl true) (bT B c st2 (R2 ++ [Cell.lst (ndue a)])) :=
    call' (cons' (var' h19) (cons' (mk_lst (ds := ndue a) (cons' (tup' (cons' rfl (cons' (tup' (cons' ek rfl) (by simp)) nil')) (by simp)) (cons' (tup' (cons' rfl (cons' (tup' (cons' ek rfl) (by simp)) nil')) (by simp)) nil')) (by simp [ndue])) nil')) (same_t (same_lst S10.get S11.get (by simp [ndue]) dp dd))
  refine ⟨Cell.lst [c, .int st2.1, .int st2.2.1, .int st2.2.2] :: (R2 ++ [Cell.lst (ndue a)]), ?_⟩
  show mRet _ sd _ = _
  rw [mRet_ev, fin]
  rfl
theorem law_body (hs : scrOk B c ns) (hB : B[0]? = some (.tab P0 q_Net)) : ∃ J, b_law P0 (startD 21 [c]) B = .rt (.bl true) (B ++ J) := by
  rw [law_eq]
  refine stA hs fun x2 x3 x4 x st R o hx => ?_
  refine stB hs o hx fun x6 x7 one odd st R o t1 o1 d1 t2 t3 w2 d2 o2 => ?_
  have W : Ow B c R one odd := ⟨t1, o1, d1, t2, t3, w2, d2, o2⟩
  refine stC rfl rfl W ?_
  refine stD hx W fun m0 m1 m2 m3 mw j R W A0 A1 A2 A3 Aw Aj => ?_
  refine stE hs o hx W A0 A1 A2 A3 Aw Aj fun x0 x1 x2 x3 x4 x5 x6 x7 x8 x9 x10 x11 x12 x13 x14 x15 x16 x17 x18 x19 x20 st R o h0 h1 => ?_
  subst h1
  exact stF hs o hB
end
end K00

namespace K00
open PySem PySem.Spec PyProof.Rows L2 Fx
noncomputable def m_law (P0 : Addr) : List D → List Cell → Res D := mLawB (b_law P0) 21
theorem law_true {P0 : Addr} (ns : List Int) (B : List Cell) (c : D) (hs : scrOk B c ns) (hB : B[0]? = some (.tab P0 q_Net)) : m_law P0 [c] B = .ok (.bl true) B := mLawB_true (law_body hs hB)
section
variable {P : Program} {w : World} {K : PySem.W.Frag} {mg : Str → Option Value} {base : Heap} {P0 : Addr}
theorem f_term (GG : GK K mg) (Z : XK P w K mg) (h1 : FnM P w K mg base 1 "is_count" 1 m_is_count) (h4 : FnM P w K mg base 4 "is_name" 1 m_is_name) (h2 : FnM P w K mg base 2 "is_width" 1 m_is_width) (h3 : FnM P w K mg base 2 "is_word" 2 m_is_word) : ∀ n, FnM P w K mg base (n + 5) "is_term" 1 (m_is_term n)
  | 0 => w_is_term GG Z h1 h4 h2 h3 (Nat.le_refl 4) (FnM.none (ps := ["value"]) GG.f_is_term sc_is_term) fun ds S h => by
    have z := ref_is_term 0 (fun _ _ => .stk) (fun m e => by cases e) ds S h
    unfold bb_is_term at z
    unfold b_is_term
    exact z
  | n + 1 => w_is_term GG Z h1 h4 h2 h3 (by omega) (f_term GG Z h1 h4 h2 h3 n) fun ds S h => by
    have z := ref_is_term (n + 1) (m_is_term n) (fun m e => by cases e; rfl) ds S h
    unfold bb_is_term at z
    unfold b_is_term
    exact z
theorem f_same (GG : GK K mg) : ∀ n, FnM P w K mg base (n + 1) "_law_same" 2 (m_same n)
  | 0 => (FnM.none (ps := ["told", "due"]) GG.f__law_same sc__law_same).imp fun ds S => .inl (by
    unfold m_same
    rw [if_neg]
    rintro ⟨a, b, _, h⟩
    exact h)
  | n + 1 => w__law_same GG (Nat.zero_le _) (f_same GG n) fun ds S h => by
    have := ref_same n ds S h
    unfold bSame at this
    unfold b__law_same
    exact this
theorem ok_law (GG : GK K mg) (Z : XK P w K mg) {C1 f1 : Addr} {d1 : FuncData} (V1 : IsCls K mg "Chip" "Chip.__init__" s_Chip_init ["self", "name", "inputs", "registers", "wires", "outputs"] ["name", "inputs", "registers", "wires", "outputs"] C1 f1 d1)
    {C2 f2 : Addr} {d2 : FuncData} (V2 : IsCls K mg "Net" "Net.__init__" s_Net_init ["self", "inputs", "latches", "ands", "outputs"] ["inputs", "latches", "ands", "outputs"] C2 f2 d2)
    {c : Addr} (TB : LamX.TabB base mg c P0) (hcd : d2.code = .ref c) {f : Addr} {fd : FuncData} (F : Fun K "law" "law" s_law f fd) : FnOk P w K mg base (L2.CX P w) 55 f fd ["script"] (spM mg K 1 (m_law P0)) := by
  have h_is_count : FnM P w K mg base 1 "is_count" 1 m_is_count := w_is_count GG  fun ds S h => by
    have z := ref_is_count ds S h
    unfold bb_is_count at z
    unfold b_is_count
    exact z
  have h_is_width : FnM P w K mg base 2 "is_width" 1 m_is_width := w_is_width GG h_is_count fun ds S h => by
    have z := ref_is_width ds S h
    unfold bb_is_width at z
    unfold b_is_width
    exact z
  have h_is_word : FnM P w K mg base 2 "is_word" 2 m_is_word := w_is_word GG h_is_count fun ds S h => by
    have z := ref_is_word ds S h
    unfold bb_is_word at z
    unfold b_is_word
    exact z
  have h_is_name : FnM P w K mg base 4 "is_name" 1 m_is_name := w_is_name GG Z fun ds S h => by
    have z := ref_is_name ds S h
    unfold bb_is_name at z
    unfold b_is_name
    exact z
  have h_is_term : FnM P w K mg base 45 "is_term" 1 (m_is_term 40) := f_term GG Z h_is_count h_is_name h_is_width h_is_word 40
  have h_check_term : FnM P w K mg base 46 "check_term" 1 m_check_term := w_check_term GG Z h_is_term fun ds S h => by
    have z := ref_check_term ds S h
    unfold bb_check_term at z
    unfold b_check_term
    exact z
  have h_is_input : FnM P w K mg base 5 "is_input" 1 m_is_input := w_is_input GG h_is_name h_is_width fun ds S h => by
    have z := ref_is_input ds S h
    unfold bb_is_input at z
    unfold b_is_input
    exact z
  have h_is_register : FnM P w K mg base 46 "is_register" 1 m_is_register := w_is_register GG h_is_input h_is_term h_is_word fun ds S h => by
    have z := ref_is_register ds S h
    unfold bb_is_register at z
    unfold b_is_register
    exact z
  have h_is_named_term : FnM P w K mg base 46 "is_named_term" 1 m_is_named_term := w_is_named_term GG h_is_name h_is_term fun ds S h => by
    have z := ref_is_named_term ds S h
    unfold bb_is_named_term at z
    unfold b_is_named_term
    exact z
  obtain ⟨fa_is_input, _, _, A_is_input, _⟩ := id h_is_input
  obtain ⟨fa_is_register, _, _, A_is_register, _⟩ := id h_is_register
  obtain ⟨fa_is_named_term, _, _, A_is_named_term, _⟩ := id h_is_named_term
  have h_check_is_input : FnM P w K mg base 51 "check_rows" 4 (m_check_rows okv isInput fa_is_input) := w_check_rows GG Z (fa_is_right := fa_is_input) ((h_is_input.held A_is_input).mono (by omega)) fun ds S h => by
    have z := ref_check_rows O_input fa_is_input ds S h
    unfold bb_check_rows at z
    unfold b_check_rows
    exact z
  have h_check_is_register : FnM P w K mg base 51 "check_rows" 4 (m_check_rows (okd 40) isRegister fa_is_register) := w_check_rows GG Z (fa_is_right := fa_is_register) ((h_is_register.held A_is_register).mono (by omega)) fun ds S h => by
    have z := ref_check_rows O_register fa_is_register ds S h
    unfold bb_check_rows at z
    unfold b_check_rows
    exact z
  have h_check_is_named_term : FnM P w K mg base 51 "check_rows" 4 (m_check_rows (okd 40) isNamed fa_is_named_term) := w_check_rows GG Z (fa_is_right := fa_is_named_term) ((h_is_named_term.held A_is_named_term).mono (by omega)) fun ds S h => by
    have z := ref_check_rows O_named fa_is_named_term ds S h
    unfold bb_check_rows at z
    unfold b_check_rows
    exact z
  have h_mk_Chip : MkM P w K mg base 52 "Chip" 5 m_Chip := V1.mkM (w_Chip_init GG Z h_is_name A_is_input A_is_register A_is_named_term h_check_is_input h_check_is_register h_check_is_named_term V1 fun ds S h => by
    have z := ref_Chip_init fa_is_input fa_is_register fa_is_named_term ds S h
    unfold bb_Chip_init at z
    unfold b_Chip_init
    exact z)
  have h_is_literal : FnM P w K mg base 2 "is_literal" 2 m_is_literal := w_is_literal GG h_is_count fun ds S h => by
    have z := ref_is_literal ds S h
    unfold bb_is_literal at z
    unfold b_is_literal
    exact z
  have h_is_latch : FnM P w K mg base 3 "is_latch" 2 m_is_latch := w_is_latch GG h_is_count h_is_literal fun ds S h => by
    have z := ref_is_latch ds S h
    unfold bb_is_latch at z
    unfold b_is_latch
    exact z
  have h_is_and : FnM P w K mg base 3 "is_and" 2 m_is_and := w_is_and GG h_is_literal fun ds S h => by
    have z := ref_is_and ds S h
    unfold bb_is_and at z
    unfold b_is_and
    exact z
  have h_is_output : FnM P w K mg base 3 "is_output" 2 m_is_output := w_is_output GG h_is_literal fun ds S h => by
    have z := ref_is_output ds S h
    unfold bb_is_output at z
    unfold b_is_output
    exact z
  have h_mk_Net : MkM P w K mg base 9 "Net" 4 (m_Net P0 q_Net 0) := V2.mkM (w_Net_init GG Z h_is_and h_is_latch h_is_output (fun f c' q lm ds S h => by
    have z := ref_check_net_rows f c' q lm ds S h
    unfold bb_check_net_rows at z
    unfold b_check_net_rows
    exact z) V2 TB hcd fun ds S h => by
    have z := ref_Net_init P0 q_Net 0 ds S h
    unfold bb_Net_init at z
    unfold b_Net_init
    exact z)
  have h__law_start : FnM P w K mg base 1 "_law_start" 1 m__law_start := w__law_start GG  fun ds S h => by
    have z := ref_start ds S h
    unfold bb__law_start at z
    unfold b__law_start
    exact z
  have h__law_pick : FnM P w K mg base 1 "_law_pick" 2 m__law_pick := w__law_pick GG  fun ds S h => by
    have z := ref_pick ds S h
    unfold bb__law_pick at z
    unfold b__law_pick
    exact z
  have h__law_raise : FnM P w K mg base 4 "_law_raise" 2 m__law_raise := w__law_raise GG Z fun ds S h => ref_raise ds S h
  have h__law_forwards : FnM P w K mg base 5 "_law_forwards" 2 m__law_forwards := w__law_forwards GG Z h__law_raise fun ds S h => ref_forwards ds S h
  have h__law_backwards : FnM P w K mg base 5 "_law_backwards" 2 m__law_backwards := w__law_backwards GG Z h__law_raise fun ds S h => ref_backwards ds S h
  have h__law_caught : FnM P w K mg base 5 "_law_caught" 2 m__law_caught := w__law_caught GG Z h__law_raise fun ds S h => ref_caught ds S h
  have h__law_call : FnM P w K mg base 54 "_law_call" 2 (m__law_call P0) := w__law_call GG Z h_check_term h_mk_Chip h_mk_Net fun ds S h => ref_call P0 ds S h
  exact w_law GG h__law_backwards h__law_call h__law_caught h__law_forwards h__law_pick (f_same GG 30) h__law_start F fun ds S _ => mLawB_ref ds S
end
end K00

namespace K00
open PySem PySem.Spec PyProof.Rows L2 Fx
/-! ### what the top has written -/
theorem gk_mk {K : PySem.W.Frag} {h : Heap} {mg : Str → Option Value} (X : K.In h) (G : h.Ns mainGlobals mg) {f0 : Addr} {od0 an0 : Option Addr} {sl0 : Array (Option Value)} {oc0 kV0 dc0 pm0 cd0 ct0 : Value} {f1 : Addr} {od1 an1 : Option Addr} {sl1 : Array (Option Value)} {oc1 kV1 dc1 pm1 cd1 ct1 : Value} {f2 : Addr} {od2 an2 : Option Addr} {sl2 : Array (Option Value)} {oc2 kV2 dc2 pm2 cd2 ct2 : Value} {f3 : Addr} {od3 an3 : Option Addr} {sl3 : Array (Option Value)} {oc3 kV3 dc3 pm3 cd3 ct3 : Value} {f4 : Addr} {od4 an4 : Option Addr} {sl4 : Array (Option Value)} {oc4 kV4 dc4 pm4 cd4 ct4 : Value} {f5 : Addr} {od5 an5 : Option Addr} {sl5 : Array (Option Value)} {oc5 kV5 dc5 pm5 cd5 ct5 : Value} {f6 : Addr} {od6 an6 : Option Addr} {sl6 : Array (Option Value)} {oc6 kV6 dc6 pm6 cd6 ct6 : Value} {f7 : Addr} {od7 an7 : Option Addr} {sl7 : Array (Option Value)} {oc7 kV7 dc7 pm7 cd7 ct7 : Value} {f8 : Addr} {od8 an8 : Option Addr} {sl8 : Array (Option Value)} {oc8 kV8 dc8 pm8 cd8 ct8 : Value} {f9 : Addr} {od9 an9 : Option Addr} {sl9 : Array (Option Value)} {oc9 kV9 dc9 pm9 cd9 ct9 : Value} {f10 : Addr} {od10 an10 : Option Addr} {sl10 : Array (Option Value)} {oc10 kV10 dc10 pm10 cd10 ct10 : Value} {f11 : Addr} {od11 an11 : Option Addr} {sl11 : Array (Option Value)} {oc11 kV11 dc11 pm11 cd11 ct11 : Value} {f12 : Addr} {od12 an12 : Option Addr} {sl12 : Array (Option Value)} {oc12 kV12 dc12 pm12 cd12 ct12 : Value} {f13 : Addr} {od13 an13 : Option Addr} {sl13 : Array (Option Value)} {oc13 kV13 dc13 pm13 cd13 ct13 : Value} {f14 : Addr} {od14 an14 : Option Addr} {sl14 : Array (Option Value)} {oc14 kV14 dc14 pm14 cd14 ct14 : Value} {f15 : Addr} {od15 an15 : Option Addr} {sl15 : Array (Option Value)} {oc15 kV15 dc15 pm15 cd15 ct15 : Value} {f16 : Addr} {od16 an16 : Option Addr} {sl16 : Array (Option Value)} {oc16 kV16 dc16 pm16 cd16 ct16 : Value} {f17 : Addr} {od17 an17 : Option Addr} {sl17 : Array (Option Value)} {oc17 kV17 dc17 pm17 cd17 ct17 : Value} {f18 : Addr} {od18 an18 : Option Addr} {sl18 : Array (Option Value)} {oc18 kV18 dc18 pm18 cd18 ct18 : Value} {f19 : Addr} {od19 an19 : Option Addr} {sl19 : Array (Option Value)} {oc19 kV19 dc19 pm19 cd19 ct19 : Value} {f20 : Addr} {od20 an20 : Option Addr} {sl20 : Array (Option Value)} {oc20 kV20 dc20 pm20 cd20 ct20 : Value} {f21 : Addr} {od21 an21 : Option Addr} {sl21 : Array (Option Value)} {oc21 kV21 dc21 pm21 cd21 ct21 : Value} {f22 : Addr} {od22 an22 : Option Addr} {sl22 : Array (Option Value)} {oc22 kV22 dc22 pm22 cd22 ct22 : Value} {f23 : Addr} {od23 an23 : Option Addr} {sl23 : Array (Option Value)} {oc23 kV23 dc23 pm23 cd23 ct23 : Value} {t0 : Tok}
    (a0 : PySem.W.nsIn K mainGlobals "is_count" = some (some (.ref f0))) (l0 : K.lookup f0 = some ⟨oc0, od0, .func (PySem.W.fnOf "is_count" "is_count" (defArgs (topS 14)) (defBody (topS 14)) (defScope (topS 14)) .none kV0 dc0 pm0 an0 cd0 ct0), sl0⟩) (c0 : PySem.W.codeIn K cd0 "is_count" = true) (k0 : PySem.W.keepIn K (.ref f0) = true)
    (a1 : PySem.W.nsIn K mainGlobals "is_width" = some (some (.ref f1))) (l1 : K.lookup f1 = some ⟨oc1, od1, .func (PySem.W.fnOf "is_width" "is_width" (defArgs (topS 15)) (defBody (topS 15)) (defScope (topS 15)) .none kV1 dc1 pm1 an1 cd1 ct1), sl1⟩) (c1 : PySem.W.codeIn K cd1 "is_width" = true) (k1 : PySem.W.keepIn K (.ref f1) = true)
    (a2 : PySem.W.nsIn K mainGlobals "is_word" = some (some (.ref f2))) (l2 : K.lookup f2 = some ⟨oc2, od2, .func (PySem.W.fnOf "is_word" "is_word" (defArgs (topS 16)) (defBody (topS 16)) (defScope (topS 16)) .none kV2 dc2 pm2 an2 cd2 ct2), sl2⟩) (c2 : PySem.W.codeIn K cd2 "is_word" = true) (k2 : PySem.W.keepIn K (.ref f2) = true)
    (a3 : PySem.W.nsIn K mainGlobals "is_name" = some (some (.ref f3))) (l3 : K.lookup f3 = some ⟨oc3, od3, .func (PySem.W.fnOf "is_name" "is_name" (defArgs (topS 21)) (defBody (topS 21)) (defScope (topS 21)) .none kV3 dc3 pm3 an3 cd3 ct3), sl3⟩) (c3 : PySem.W.codeIn K cd3 "is_name" = true) (k3 : PySem.W.keepIn K (.ref f3) = true)
    (a4 : PySem.W.nsIn K mainGlobals "is_term" = some (some (.ref f4))) (l4 : K.lookup f4 = some ⟨oc4, od4, .func (PySem.W.fnOf "is_term" "is_term" (defArgs (topS 22)) (defBody (topS 22)) (defScope (topS 22)) .none kV4 dc4 pm4 an4 cd4 ct4), sl4⟩) (c4 : PySem.W.codeIn K cd4 "is_term" = true) (k4 : PySem.W.keepIn K (.ref f4) = true)
    (a5 : PySem.W.nsIn K mainGlobals "check_term" = some (some (.ref f5))) (l5 : K.lookup f5 = some ⟨oc5, od5, .func (PySem.W.fnOf "check_term" "check_term" (defArgs (topS 23)) (defBody (topS 23)) (defScope (topS 23)) .none kV5 dc5 pm5 an5 cd5 ct5), sl5⟩) (c5 : PySem.W.codeIn K cd5 "check_term" = true) (k5 : PySem.W.keepIn K (.ref f5) = true)
    (a6 : PySem.W.nsIn K mainGlobals "is_input" = some (some (.ref f6))) (l6 : K.lookup f6 = some ⟨oc6, od6, .func (PySem.W.fnOf "is_input" "is_input" (defArgs (topS 25)) (defBody (topS 25)) (defScope (topS 25)) .none kV6 dc6 pm6 an6 cd6 ct6), sl6⟩) (c6 : PySem.W.codeIn K cd6 "is_input" = true) (k6 : PySem.W.keepIn K (.ref f6) = true)
    (a7 : PySem.W.nsIn K mainGlobals "is_register" = some (some (.ref f7))) (l7 : K.lookup f7 = some ⟨oc7, od7, .func (PySem.W.fnOf "is_register" "is_register" (defArgs (topS 26)) (defBody (topS 26)) (defScope (topS 26)) .none kV7 dc7 pm7 an7 cd7 ct7), sl7⟩) (c7 : PySem.W.codeIn K cd7 "is_register" = true) (k7 : PySem.W.keepIn K (.ref f7) = true)
    (a8 : PySem.W.nsIn K mainGlobals "is_named_term" = some (some (.ref f8))) (l8 : K.lookup f8 = some ⟨oc8, od8, .func (PySem.W.fnOf "is_named_term" "is_named_term" (defArgs (topS 27)) (defBody (topS 27)) (defScope (topS 27)) .none kV8 dc8 pm8 an8 cd8 ct8), sl8⟩) (c8 : PySem.W.codeIn K cd8 "is_named_term" = true) (k8 : PySem.W.keepIn K (.ref f8) = true)
    (a9 : PySem.W.nsIn K mainGlobals "check_rows" = some (some (.ref f9))) (l9 : K.lookup f9 = some ⟨oc9, od9, .func (PySem.W.fnOf "check_rows" "check_rows" (defArgs (topS 29)) (defBody (topS 29)) (defScope (topS 29)) .none kV9 dc9 pm9 an9 cd9 ct9), sl9⟩) (c9 : PySem.W.codeIn K cd9 "check_rows" = true) (k9 : PySem.W.keepIn K (.ref f9) = true)
    (a10 : PySem.W.nsIn K mainGlobals "is_literal" = some (some (.ref f10))) (l10 : K.lookup f10 = some ⟨oc10, od10, .func (PySem.W.fnOf "is_literal" "is_literal" (defArgs (topS 33)) (defBody (topS 33)) (defScope (topS 33)) .none kV10 dc10 pm10 an10 cd10 ct10), sl10⟩) (c10 : PySem.W.codeIn K cd10 "is_literal" = true) (k10 : PySem.W.keepIn K (.ref f10) = true)
    (a11 : PySem.W.nsIn K mainGlobals "is_latch" = some (some (.ref f11))) (l11 : K.lookup f11 = some ⟨oc11, od11, .func (PySem.W.fnOf "is_latch" "is_latch" (defArgs (topS 34)) (defBody (topS 34)) (defScope (topS 34)) .none kV11 dc11 pm11 an11 cd11 ct11), sl11⟩) (c11 : PySem.W.codeIn K cd11 "is_latch" = true) (k11 : PySem.W.keepIn K (.ref f11) = true)
    (a12 : PySem.W.nsIn K mainGlobals "is_and" = some (some (.ref f12))) (l12 : K.lookup f12 = some ⟨oc12, od12, .func (PySem.W.fnOf "is_and" "is_and" (defArgs (topS 35)) (defBody (topS 35)) (defScope (topS 35)) .none kV12 dc12 pm12 an12 cd12 ct12), sl12⟩) (c12 : PySem.W.codeIn K cd12 "is_and" = true) (k12 : PySem.W.keepIn K (.ref f12) = true)
    (a13 : PySem.W.nsIn K mainGlobals "is_output" = some (some (.ref f13))) (l13 : K.lookup f13 = some ⟨oc13, od13, .func (PySem.W.fnOf "is_output" "is_output" (defArgs (topS 36)) (defBody (topS 36)) (defScope (topS 36)) .none kV13 dc13 pm13 an13 cd13 ct13), sl13⟩) (c13 : PySem.W.codeIn K cd13 "is_output" = true) (k13 : PySem.W.keepIn K (.ref f13) = true)
    (a14 : PySem.W.nsIn K mainGlobals "check_net_rows" = some (some (.ref f14))) (l14 : K.lookup f14 = some ⟨oc14, od14, .func (PySem.W.fnOf "check_net_rows" "check_net_rows" (defArgs (topS 32)) (defBody (topS 32)) (defScope (topS 32)) .none kV14 dc14 pm14 an14 cd14 ct14), sl14⟩) (c14 : PySem.W.codeIn K cd14 "check_net_rows" = true) (k14 : PySem.W.keepIn K (.ref f14) = true)
    (a15 : PySem.W.nsIn K mainGlobals "_law_start" = some (some (.ref f15))) (l15 : K.lookup f15 = some ⟨oc15, od15, .func (PySem.W.fnOf "_law_start" "_law_start" (defArgs (topS 38)) (defBody (topS 38)) (defScope (topS 38)) .none kV15 dc15 pm15 an15 cd15 ct15), sl15⟩) (c15 : PySem.W.codeIn K cd15 "_law_start" = true) (k15 : PySem.W.keepIn K (.ref f15) = true)
    (a16 : PySem.W.nsIn K mainGlobals "_law_pick" = some (some (.ref f16))) (l16 : K.lookup f16 = some ⟨oc16, od16, .func (PySem.W.fnOf "_law_pick" "_law_pick" (defArgs (topS 39)) (defBody (topS 39)) (defScope (topS 39)) .none kV16 dc16 pm16 an16 cd16 ct16), sl16⟩) (c16 : PySem.W.codeIn K cd16 "_law_pick" = true) (k16 : PySem.W.keepIn K (.ref f16) = true)
    (a17 : PySem.W.nsIn K mainGlobals "_law_same" = some (some (.ref f17))) (l17 : K.lookup f17 = some ⟨oc17, od17, .func (PySem.W.fnOf "_law_same" "_law_same" (defArgs (topS 40)) (defBody (topS 40)) (defScope (topS 40)) .none kV17 dc17 pm17 an17 cd17 ct17), sl17⟩) (c17 : PySem.W.codeIn K cd17 "_law_same" = true) (k17 : PySem.W.keepIn K (.ref f17) = true)
    (a18 : PySem.W.nsIn K mainGlobals "_law_raise" = some (some (.ref f18))) (l18 : K.lookup f18 = some ⟨oc18, od18, .func (PySem.W.fnOf "_law_raise" "_law_raise" (defArgs (topS 41)) (defBody (topS 41)) (defScope (topS 41)) .none kV18 dc18 pm18 an18 cd18 ct18), sl18⟩) (c18 : PySem.W.codeIn K cd18 "_law_raise" = true) (k18 : PySem.W.keepIn K (.ref f18) = true)
    (a19 : PySem.W.nsIn K mainGlobals "_law_forwards" = some (some (.ref f19))) (l19 : K.lookup f19 = some ⟨oc19, od19, .func (PySem.W.fnOf "_law_forwards" "_law_forwards" (defArgs (topS 42)) (defBody (topS 42)) (defScope (topS 42)) .none kV19 dc19 pm19 an19 cd19 ct19), sl19⟩) (c19 : PySem.W.codeIn K cd19 "_law_forwards" = true) (k19 : PySem.W.keepIn K (.ref f19) = true)
    (a20 : PySem.W.nsIn K mainGlobals "_law_backwards" = some (some (.ref f20))) (l20 : K.lookup f20 = some ⟨oc20, od20, .func (PySem.W.fnOf "_law_backwards" "_law_backwards" (defArgs (topS 43)) (defBody (topS 43)) (defScope (topS 43)) .none kV20 dc20 pm20 an20 cd20 ct20), sl20⟩) (c20 : PySem.W.codeIn K cd20 "_law_backwards" = true) (k20 : PySem.W.keepIn K (.ref f20) = true)
    (a21 : PySem.W.nsIn K mainGlobals "_law_caught" = some (some (.ref f21))) (l21 : K.lookup f21 = some ⟨oc21, od21, .func (PySem.W.fnOf "_law_caught" "_law_caught" (defArgs (topS 44)) (defBody (topS 44)) (defScope (topS 44)) .none kV21 dc21 pm21 an21 cd21 ct21), sl21⟩) (c21 : PySem.W.codeIn K cd21 "_law_caught" = true) (k21 : PySem.W.keepIn K (.ref f21) = true)
    (a22 : PySem.W.nsIn K mainGlobals "_law_call" = some (some (.ref f22))) (l22 : K.lookup f22 = some ⟨oc22, od22, .func (PySem.W.fnOf "_law_call" "_law_call" (defArgs (topS 45)) (defBody (topS 45)) (defScope (topS 45)) .none kV22 dc22 pm22 an22 cd22 ct22), sl22⟩) (c22 : PySem.W.codeIn K cd22 "_law_call" = true) (k22 : PySem.W.keepIn K (.ref f22) = true)
    (a23 : PySem.W.nsIn K mainGlobals "law" = some (some (.ref f23))) (l23 : K.lookup f23 = some ⟨oc23, od23, .func (PySem.W.fnOf "law" "law" (defArgs (topS 46)) (defBody (topS 46)) (defScope (topS 46)) .none kV23 dc23 pm23 an23 cd23 ct23), sl23⟩) (c23 : PySem.W.codeIn K cd23 "law" = true) (k23 : PySem.W.keepIn K (.ref f23) = true)
    (z0 : PySem.W.nsIn K mainGlobals "ValueError" = some none)
    (z1 : PySem.W.nsIn K mainGlobals "abs" = some none)
    (z2 : PySem.W.nsIn K mainGlobals "all" = some none)
    (z3 : PySem.W.nsIn K mainGlobals "bool" = some none)
    (z4 : PySem.W.nsIn K mainGlobals "int" = some none)
    (z5 : PySem.W.nsIn K mainGlobals "isinstance" = some none)
    (z6 : PySem.W.nsIn K mainGlobals "len" = some none)
    (z7 : PySem.W.nsIn K mainGlobals "list" = some none)
    (z8 : PySem.W.nsIn K mainGlobals "range" = some none)
    (z9 : PySem.W.nsIn K mainGlobals "str" = some none)
    (z10 : PySem.W.nsIn K mainGlobals "tuple" = some none)
    (y0 : PySem.W.nsIn K mainGlobals "WIDEST" = some (some (.int 16 t0))) : GK K mg :=
  ⟨PySem.W.mg_none_of X G z0,
   PySem.W.mg_none_of X G z1,
   PySem.W.mg_none_of X G z2,
   PySem.W.mg_none_of X G z3,
   PySem.W.mg_none_of X G z4,
   PySem.W.mg_none_of X G z5,
   PySem.W.mg_none_of X G z6,
   PySem.W.mg_none_of X G z7,
   PySem.W.mg_none_of X G z8,
   PySem.W.mg_none_of X G z9,
   PySem.W.mg_none_of X G z10,
   isFn_mk X G a0 l0 c0 k0 (fun _ _ _ _ _ _ us hl => match us, hl with | [_], _ => rfl),
   isFn_mk X G a1 l1 c1 k1 (fun _ _ _ _ _ _ us hl => match us, hl with | [_], _ => rfl),
   isFn_mk X G a2 l2 c2 k2 (fun _ _ _ _ _ _ us hl => match us, hl with | [_, _], _ => rfl),
   isFn_mk X G a3 l3 c3 k3 (fun _ _ _ _ _ _ us hl => match us, hl with | [_], _ => rfl),
   isFn_mk X G a4 l4 c4 k4 (fun _ _ _ _ _ _ us hl => match us, hl with | [_], _ => rfl),
   isFn_mk X G a5 l5 c5 k5 (fun _ _ _ _ _ _ us hl => match us, hl with | [_], _ => rfl),
   isFn_mk X G a6 l6 c6 k6 (fun _ _ _ _ _ _ us hl => match us, hl with | [_], _ => rfl),
   isFn_mk X G a7 l7 c7 k7 (fun _ _ _ _ _ _ us hl => match us, hl with | [_], _ => rfl),
   isFn_mk X G a8 l8 c8 k8 (fun _ _ _ _ _ _ us hl => match us, hl with | [_], _ => rfl),
   isFn_mk X G a9 l9 c9 k9 (fun _ _ _ _ _ _ us hl => match us, hl with | [_, _, _, _], _ => rfl),
   isFn_mk X G a10 l10 c10 k10 (fun _ _ _ _ _ _ us hl => match us, hl with | [_, _], _ => rfl),
   isFn_mk X G a11 l11 c11 k11 (fun _ _ _ _ _ _ us hl => match us, hl with | [_, _], _ => rfl),
   isFn_mk X G a12 l12 c12 k12 (fun _ _ _ _ _ _ us hl => match us, hl with | [_, _], _ => rfl),
   isFn_mk X G a13 l13 c13 k13 (fun _ _ _ _ _ _ us hl => match us, hl with | [_, _], _ => rfl),
   isFn_mk X G a14 l14 c14 k14 (fun _ _ _ _ _ _ us hl => match us, hl with | [_, _, _], _ => rfl),
   isFn_mk X G a15 l15 c15 k15 (fun _ _ _ _ _ _ us hl => match us, hl with | [_], _ => rfl),
   isFn_mk X G a16 l16 c16 k16 (fun _ _ _ _ _ _ us hl => match us, hl with | [_, _], _ => rfl),
   isFn_mk X G a17 l17 c17 k17 (fun _ _ _ _ _ _ us hl => match us, hl with | [_, _], _ => rfl),
   isFn_mk X G a18 l18 c18 k18 (fun _ _ _ _ _ _ us hl => match us, hl with | [_, _], _ => rfl),
   isFn_mk X G a19 l19 c19 k19 (fun _ _ _ _ _ _ us hl => match us, hl with | [_, _], _ => rfl),
   isFn_mk X G a20 l20 c20 k20 (fun _ _ _ _ _ _ us hl => match us, hl with | [_, _], _ => rfl),
   isFn_mk X G a21 l21 c21 k21 (fun _ _ _ _ _ _ us hl => match us, hl with | [_, _], _ => rfl),
   isFn_mk X G a22 l22 c22 k22 (fun _ _ _ _ _ _ us hl => match us, hl with | [_, _], _ => rfl),
   isFn_mk X G a23 l23 c23 k23 (fun _ _ _ _ _ _ us hl => match us, hl with | [_], _ => rfl),
   ⟨t0, PySem.W.mg_of X G y0⟩⟩
theorem all_mk {l : PySem.W.OpenLaw} {w : World} {K : PySem.W.Frag} {h : Heap} {mg : Str → Option Value} {fa : Addr} (X : K.In h) (G : h.Ns mainGlobals mg) (hfa : mg "law" = some (.ref fa))
    (Z : XK l.prog w K mg) (V1 : ∃ C f d, IsCls K mg "Chip" "Chip.__init__" s_Chip_init ["self", "name", "inputs", "registers", "wires", "outputs"] ["name", "inputs", "registers", "wires", "outputs"] C f d) {C2 f2x : Addr} {d2x : FuncData} (V2 : IsCls K mg "Net" "Net.__init__" s_Net_init ["self", "inputs", "latches", "ands", "outputs"] ["inputs", "latches", "ands", "outputs"] C2 f2x d2x)
    {cN P0 : Addr} {ocN : Value} {odN : Option Addr} {vsN : Array Value} {slN : Array (Option Value)} (hcd : d2x.code = .ref cN) (_lcN : K.lookup cN = some ⟨ocN, odN, .fields vsN, slN⟩) (_v11 : vsN[11]? = some (.ref P0)) (hT : h.get? P0 = some { cls := .none, data := .fields #[] }) (nT : K.lookup P0 = none) (hC : PySem.W.codeHdIn K cN P0 = true) {f0 : Addr} {od0 an0 : Option Addr} {sl0 : Array (Option Value)} {oc0 kV0 dc0 pm0 cd0 ct0 : Value} {f1 : Addr} {od1 an1 : Option Addr} {sl1 : Array (Option Value)} {oc1 kV1 dc1 pm1 cd1 ct1 : Value} {f2 : Addr} {od2 an2 : Option Addr} {sl2 : Array (Option Value)} {oc2 kV2 dc2 pm2 cd2 ct2 : Value} {f3 : Addr} {od3 an3 : Option Addr} {sl3 : Array (Option Value)} {oc3 kV3 dc3 pm3 cd3 ct3 : Value} {f4 : Addr} {od4 an4 : Option Addr} {sl4 : Array (Option Value)} {oc4 kV4 dc4 pm4 cd4 ct4 : Value} {f5 : Addr} {od5 an5 : Option Addr} {sl5 : Array (Option Value)} {oc5 kV5 dc5 pm5 cd5 ct5 : Value} {f6 : Addr} {od6 an6 : Option Addr} {sl6 : Array (Option Value)} {oc6 kV6 dc6 pm6 cd6 ct6 : Value} {f7 : Addr} {od7 an7 : Option Addr} {sl7 : Array (Option Value)} {oc7 kV7 dc7 pm7 cd7 ct7 : Value} {f8 : Addr} {od8 an8 : Option Addr} {sl8 : Array (Option Value)} {oc8 kV8 dc8 pm8 cd8 ct8 : Value} {f9 : Addr} {od9 an9 : Option Addr} {sl9 : Array (Option Value)} {oc9 kV9 dc9 pm9 cd9 ct9 : Value} {f10 : Addr} {od10 an10 : Option Addr} {sl10 : Array (Option Value)} {oc10 kV10 dc10 pm10 cd10 ct10 : Value} {f11 : Addr} {od11 an11 : Option Addr} {sl11 : Array (Option Value)} {oc11 kV11 dc11 pm11 cd11 ct11 : Value} {f12 : Addr} {od12 an12 : Option Addr} {sl12 : Array (Option Value)} {oc12 kV12 dc12 pm12 cd12 ct12 : Value} {f13 : Addr} {od13 an13 : Option Addr} {sl13 : Array (Option Value)} {oc13 kV13 dc13 pm13 cd13 ct13 : Value} {f14 : Addr} {od14 an14 : Option Addr} {sl14 : Array (Option Value)} {oc14 kV14 dc14 pm14 cd14 ct14 : Value} {f15 : Addr} {od15 an15 : Option Addr} {sl15 : Array (Option Value)} {oc15 kV15 dc15 pm15 cd15 ct15 : Value} {f16 : Addr} {od16 an16 : Option Addr} {sl16 : Array (Option Value)} {oc16 kV16 dc16 pm16 cd16 ct16 : Value} {f17 : Addr} {od17 an17 : Option Addr} {sl17 : Array (Option Value)} {oc17 kV17 dc17 pm17 cd17 ct17 : Value} {f18 : Addr} {od18 an18 : Option Addr} {sl18 : Array (Option Value)} {oc18 kV18 dc18 pm18 cd18 ct18 : Value} {f19 : Addr} {od19 an19 : Option Addr} {sl19 : Array (Option Value)} {oc19 kV19 dc19 pm19 cd19 ct19 : Value} {f20 : Addr} {od20 an20 : Option Addr} {sl20 : Array (Option Value)} {oc20 kV20 dc20 pm20 cd20 ct20 : Value} {f21 : Addr} {od21 an21 : Option Addr} {sl21 : Array (Option Value)} {oc21 kV21 dc21 pm21 cd21 ct21 : Value} {f22 : Addr} {od22 an22 : Option Addr} {sl22 : Array (Option Value)} {oc22 kV22 dc22 pm22 cd22 ct22 : Value} {f23 : Addr} {od23 an23 : Option Addr} {sl23 : Array (Option Value)} {oc23 kV23 dc23 pm23 cd23 ct23 : Value} {t0 : Tok}
    (a0 : PySem.W.nsIn K mainGlobals "is_count" = some (some (.ref f0))) (l0 : K.lookup f0 = some ⟨oc0, od0, .func (PySem.W.fnOf "is_count" "is_count" (defArgs (topS 14)) (defBody (topS 14)) (defScope (topS 14)) .none kV0 dc0 pm0 an0 cd0 ct0), sl0⟩) (c0 : PySem.W.codeIn K cd0 "is_count" = true) (k0 : PySem.W.keepIn K (.ref f0) = true)
    (a1 : PySem.W.nsIn K mainGlobals "is_width" = some (some (.ref f1))) (l1 : K.lookup f1 = some ⟨oc1, od1, .func (PySem.W.fnOf "is_width" "is_width" (defArgs (topS 15)) (defBody (topS 15)) (defScope (topS 15)) .none kV1 dc1 pm1 an1 cd1 ct1), sl1⟩) (c1 : PySem.W.codeIn K cd1 "is_width" = true) (k1 : PySem.W.keepIn K (.ref f1) = true)
    (a2 : PySem.W.nsIn K mainGlobals "is_word" = some (some (.ref f2))) (l2 : K.lookup f2 = some ⟨oc2, od2, .func (PySem.W.fnOf "is_word" "is_word" (defArgs (topS 16)) (defBody (topS 16)) (defScope (topS 16)) .none kV2 dc2 pm2 an2 cd2 ct2), sl2⟩) (c2 : PySem.W.codeIn K cd2 "is_word" = true) (k2 : PySem.W.keepIn K (.ref f2) = true)
    (a3 : PySem.W.nsIn K mainGlobals "is_name" = some (some (.ref f3))) (l3 : K.lookup f3 = some ⟨oc3, od3, .func (PySem.W.fnOf "is_name" "is_name" (defArgs (topS 21)) (defBody (topS 21)) (defScope (topS 21)) .none kV3 dc3 pm3 an3 cd3 ct3), sl3⟩) (c3 : PySem.W.codeIn K cd3 "is_name" = true) (k3 : PySem.W.keepIn K (.ref f3) = true)
    (a4 : PySem.W.nsIn K mainGlobals "is_term" = some (some (.ref f4))) (l4 : K.lookup f4 = some ⟨oc4, od4, .func (PySem.W.fnOf "is_term" "is_term" (defArgs (topS 22)) (defBody (topS 22)) (defScope (topS 22)) .none kV4 dc4 pm4 an4 cd4 ct4), sl4⟩) (c4 : PySem.W.codeIn K cd4 "is_term" = true) (k4 : PySem.W.keepIn K (.ref f4) = true)
    (a5 : PySem.W.nsIn K mainGlobals "check_term" = some (some (.ref f5))) (l5 : K.lookup f5 = some ⟨oc5, od5, .func (PySem.W.fnOf "check_term" "check_term" (defArgs (topS 23)) (defBody (topS 23)) (defScope (topS 23)) .none kV5 dc5 pm5 an5 cd5 ct5), sl5⟩) (c5 : PySem.W.codeIn K cd5 "check_term" = true) (k5 : PySem.W.keepIn K (.ref f5) = true)
    (a6 : PySem.W.nsIn K mainGlobals "is_input" = some (some (.ref f6))) (l6 : K.lookup f6 = some ⟨oc6, od6, .func (PySem.W.fnOf "is_input" "is_input" (defArgs (topS 25)) (defBody (topS 25)) (defScope (topS 25)) .none kV6 dc6 pm6 an6 cd6 ct6), sl6⟩) (c6 : PySem.W.codeIn K cd6 "is_input" = true) (k6 : PySem.W.keepIn K (.ref f6) = true)
    (a7 : PySem.W.nsIn K mainGlobals "is_register" = some (some (.ref f7))) (l7 : K.lookup f7 = some ⟨oc7, od7, .func (PySem.W.fnOf "is_register" "is_register" (defArgs (topS 26)) (defBody (topS 26)) (defScope (topS 26)) .none kV7 dc7 pm7 an7 cd7 ct7), sl7⟩) (c7 : PySem.W.codeIn K cd7 "is_register" = true) (k7 : PySem.W.keepIn K (.ref f7) = true)
    (a8 : PySem.W.nsIn K mainGlobals "is_named_term" = some (some (.ref f8))) (l8 : K.lookup f8 = some ⟨oc8, od8, .func (PySem.W.fnOf "is_named_term" "is_named_term" (defArgs (topS 27)) (defBody (topS 27)) (defScope (topS 27)) .none kV8 dc8 pm8 an8 cd8 ct8), sl8⟩) (c8 : PySem.W.codeIn K cd8 "is_named_term" = true) (k8 : PySem.W.keepIn K (.ref f8) = true)
    (a9 : PySem.W.nsIn K mainGlobals "check_rows" = some (some (.ref f9))) (l9 : K.lookup f9 = some ⟨oc9, od9, .func (PySem.W.fnOf "check_rows" "check_rows" (defArgs (topS 29)) (defBody (topS 29)) (defScope (topS 29)) .none kV9 dc9 pm9 an9 cd9 ct9), sl9⟩) (c9 : PySem.W.codeIn K cd9 "check_rows" = true) (k9 : PySem.W.keepIn K (.ref f9) = true)
    (a10 : PySem.W.nsIn K mainGlobals "is_literal" = some (some (.ref f10))) (l10 : K.lookup f10 = some ⟨oc10, od10, .func (PySem.W.fnOf "is_literal" "is_literal" (defArgs (topS 33)) (defBody (topS 33)) (defScope (topS 33)) .none kV10 dc10 pm10 an10 cd10 ct10), sl10⟩) (c10 : PySem.W.codeIn K cd10 "is_literal" = true) (k10 : PySem.W.keepIn K (.ref f10) = true)
    (a11 : PySem.W.nsIn K mainGlobals "is_latch" = some (some (.ref f11))) (l11 : K.lookup f11 = some ⟨oc11, od11, .func (PySem.W.fnOf "is_latch" "is_latch" (defArgs (topS 34)) (defBody (topS 34)) (defScope (topS 34)) .none kV11 dc11 pm11 an11 cd11 ct11), sl11⟩) (c11 : PySem.W.codeIn K cd11 "is_latch" = true) (k11 : PySem.W.keepIn K (.ref f11) = true)
    (a12 : PySem.W.nsIn K mainGlobals "is_and" = some (some (.ref f12))) (l12 : K.lookup f12 = some ⟨oc12, od12, .func (PySem.W.fnOf "is_and" "is_and" (defArgs (topS 35)) (defBody (topS 35)) (defScope (topS 35)) .none kV12 dc12 pm12 an12 cd12 ct12), sl12⟩) (c12 : PySem.W.codeIn K cd12 "is_and" = true) (k12 : PySem.W.keepIn K (.ref f12) = true)
    (a13 : PySem.W.nsIn K mainGlobals "is_output" = some (some (.ref f13))) (l13 : K.lookup f13 = some ⟨oc13, od13, .func (PySem.W.fnOf "is_output" "is_output" (defArgs (topS 36)) (defBody (topS 36)) (defScope (topS 36)) .none kV13 dc13 pm13 an13 cd13 ct13), sl13⟩) (c13 : PySem.W.codeIn K cd13 "is_output" = true) (k13 : PySem.W.keepIn K (.ref f13) = true)
    (a14 : PySem.W.nsIn K mainGlobals "check_net_rows" = some (some (.ref f14))) (l14 : K.lookup f14 = some ⟨oc14, od14, .func (PySem.W.fnOf "check_net_rows" "check_net_rows" (defArgs (topS 32)) (defBody (topS 32)) (defScope (topS 32)) .none kV14 dc14 pm14 an14 cd14 ct14), sl14⟩) (c14 : PySem.W.codeIn K cd14 "check_net_rows" = true) (k14 : PySem.W.keepIn K (.ref f14) = true)
    (a15 : PySem.W.nsIn K mainGlobals "_law_start" = some (some (.ref f15))) (l15 : K.lookup f15 = some ⟨oc15, od15, .func (PySem.W.fnOf "_law_start" "_law_start" (defArgs (topS 38)) (defBody (topS 38)) (defScope (topS 38)) .none kV15 dc15 pm15 an15 cd15 ct15), sl15⟩) (c15 : PySem.W.codeIn K cd15 "_law_start" = true) (k15 : PySem.W.keepIn K (.ref f15) = true)
    (a16 : PySem.W.nsIn K mainGlobals "_law_pick" = some (some (.ref f16))) (l16 : K.lookup f16 = some ⟨oc16, od16, .func (PySem.W.fnOf "_law_pick" "_law_pick" (defArgs (topS 39)) (defBody (topS 39)) (defScope (topS 39)) .none kV16 dc16 pm16 an16 cd16 ct16), sl16⟩) (c16 : PySem.W.codeIn K cd16 "_law_pick" = true) (k16 : PySem.W.keepIn K (.ref f16) = true)
    (a17 : PySem.W.nsIn K mainGlobals "_law_same" = some (some (.ref f17))) (l17 : K.lookup f17 = some ⟨oc17, od17, .func (PySem.W.fnOf "_law_same" "_law_same" (defArgs (topS 40)) (defBody (topS 40)) (defScope (topS 40)) .none kV17 dc17 pm17 an17 cd17 ct17), sl17⟩) (c17 : PySem.W.codeIn K cd17 "_law_same" = true) (k17 : PySem.W.keepIn K (.ref f17) = true)
    (a18 : PySem.W.nsIn K mainGlobals "_law_raise" = some (some (.ref f18))) (l18 : K.lookup f18 = some ⟨oc18, od18, .func (PySem.W.fnOf "_law_raise" "_law_raise" (defArgs (topS 41)) (defBody (topS 41)) (defScope (topS 41)) .none kV18 dc18 pm18 an18 cd18 ct18), sl18⟩) (c18 : PySem.W.codeIn K cd18 "_law_raise" = true) (k18 : PySem.W.keepIn K (.ref f18) = true)
    (a19 : PySem.W.nsIn K mainGlobals "_law_forwards" = some (some (.ref f19))) (l19 : K.lookup f19 = some ⟨oc19, od19, .func (PySem.W.fnOf "_law_forwards" "_law_forwards" (defArgs (topS 42)) (defBody (topS 42)) (defScope (topS 42)) .none kV19 dc19 pm19 an19 cd19 ct19), sl19⟩) (c19 : PySem.W.codeIn K cd19 "_law_forwards" = true) (k19 : PySem.W.keepIn K (.ref f19) = true)
    (a20 : PySem.W.nsIn K mainGlobals "_law_backwards" = some (some (.ref f20))) (l20 : K.lookup f20 = some ⟨oc20, od20, .func (PySem.W.fnOf "_law_backwards" "_law_backwards" (defArgs (topS 43)) (defBody (topS 43)) (defScope (topS 43)) .none kV20 dc20 pm20 an20 cd20 ct20), sl20⟩) (c20 : PySem.W.codeIn K cd20 "_law_backwards" = true) (k20 : PySem.W.keepIn K (.ref f20) = true)
    (a21 : PySem.W.nsIn K mainGlobals "_law_caught" = some (some (.ref f21))) (l21 : K.lookup f21 = some ⟨oc21, od21, .func (PySem.W.fnOf "_law_caught" "_law_caught" (defArgs (topS 44)) (defBody (topS 44)) (defScope (topS 44)) .none kV21 dc21 pm21 an21 cd21 ct21), sl21⟩) (c21 : PySem.W.codeIn K cd21 "_law_caught" = true) (k21 : PySem.W.keepIn K (.ref f21) = true)
    (a22 : PySem.W.nsIn K mainGlobals "_law_call" = some (some (.ref f22))) (l22 : K.lookup f22 = some ⟨oc22, od22, .func (PySem.W.fnOf "_law_call" "_law_call" (defArgs (topS 45)) (defBody (topS 45)) (defScope (topS 45)) .none kV22 dc22 pm22 an22 cd22 ct22), sl22⟩) (c22 : PySem.W.codeIn K cd22 "_law_call" = true) (k22 : PySem.W.keepIn K (.ref f22) = true)
    (a23 : PySem.W.nsIn K mainGlobals "law" = some (some (.ref f23))) (l23 : K.lookup f23 = some ⟨oc23, od23, .func (PySem.W.fnOf "law" "law" (defArgs (topS 46)) (defBody (topS 46)) (defScope (topS 46)) .none kV23 dc23 pm23 an23 cd23 ct23), sl23⟩) (c23 : PySem.W.codeIn K cd23 "law" = true) (k23 : PySem.W.keepIn K (.ref f23) = true)
    (z0 : PySem.W.nsIn K mainGlobals "ValueError" = some none)
    (z1 : PySem.W.nsIn K mainGlobals "abs" = some none)
    (z2 : PySem.W.nsIn K mainGlobals "all" = some none)
    (z3 : PySem.W.nsIn K mainGlobals "bool" = some none)
    (z4 : PySem.W.nsIn K mainGlobals "int" = some none)
    (z5 : PySem.W.nsIn K mainGlobals "isinstance" = some none)
    (z6 : PySem.W.nsIn K mainGlobals "len" = some none)
    (z7 : PySem.W.nsIn K mainGlobals "list" = some none)
    (z8 : PySem.W.nsIn K mainGlobals "range" = some none)
    (z9 : PySem.W.nsIn K mainGlobals "str" = some none)
    (z10 : PySem.W.nsIn K mainGlobals "tuple" = some none)
    (y0 : PySem.W.nsIn K mainGlobals "WIDEST" = some (some (.int 16 t0))) :
    LamX.LawAtS l w K (L2.CX l.prog w) 55 63 "script" mg fa h := by
  have e := hfa.symm.trans (PySem.W.mg_of X G a23)
  cases e
  have GG : GK K mg := gk_mk X G a0 l0 c0 k0 a1 l1 c1 k1 a2 l2 c2 k2 a3 l3 c3 k3 a4 l4 c4 k4 a5 l5 c5 k5 a6 l6 c6 k6 a7 l7 c7 k7 a8 l8 c8 k8 a9 l9 c9 k9 a10 l10 c10 k10 a11 l11 c11 k11 a12 l12 c12 k12 a13 l13 c13 k13 a14 l14 c14 k14 a15 l15 c15 k15 a16 l16 c16 k16 a17 l17 c17 k17 a18 l18 c18 k18 a19 l19 c19 k19 a20 l20 c20 k20 a21 l21 c21 k21 a22 l22 c22 k22 a23 l23 c23 k23 z0 z1 z2 z3 z4 z5 z6 z7 z8 z9 z10 y0
  obtain ⟨C1, f1x, d1x, V1⟩ := V1
  exact lawAt_mk (q := q_Net) X hT nT hC (fun s v => .of_eq rfl) (fun ns B c hs hB => law_true ns B c hs hB) fun base _ _ TB => ok_law GG Z V1 V2 TB hcd (fun_mk (st := s_law) l23 c23 k23)
end K00
open PySem PySem.W PyProof.Rows
set_option maxHeartbeats 0 in
theorem PySem.Challenge.cw_chiptrue_k00_errors_holds : PySem.Challenge.rw_chiptrue_k00_errors.Holds := by
  w_on; o_law; k_head; (case hw => w_witness2)
  k_fill
  refine LamX.walk_ofTs (l := PySem.Challenge.rw_chiptrue_k00_errors) (n := 63) (k := 55) (x := "script") (CX := fun w => L2.CX PySem.Challenge.rw_chiptrue_k00_errors.prog w) rfl (by decide) rfl ⟨rfl, by decide, by decide⟩ (fun w h Y => PySem.W.km_in_of Y) ?F (fun w H s e s' h => Fx.hCX H s e s' h)
  case F =>
    intro w mg fa h Y KX G hmg
    refine' K00.all_mk (l := PySem.Challenge.rw_chiptrue_k00_errors) KX G hmg ({ C0 := _, f0 := _, d0 := _, e0 := Fx.excAt_mk KX G ?xa0 ?xl0 ?xrv0 ?xsa0 ?xbe0 ?xty0 ?xkp0 ?xiC0 ?xtI0 ?xfn0 ?xlf0 ?xco0 ?xlc0 ?xvf0 ?xpf0 ?xlcc0 ?xlcl0 ?xzs0 ?xtp0 rfl rfl rfl rfl rfl rfl (by decide +kernel) (by decide +kernel) ?xhp0 ?xhn0 ?xga0 ?xgg0 ?xhd0 ?xth0 ?xve0, ma0 := ?xma0, su0 := ?xsu0, C1 := _, f1 := _, d1 := _, e1 := Fx.excAt_mk KX G ?xa1 ?xl1 ?xrv1 ?xsa1 ?xbe1 ?xty1 ?xkp1 ?xiC1 ?xtI1 ?xfn1 ?xlf1 ?xco1 ?xlc1 ?xvf1 ?xpf1 ?xlcc1 ?xlcl1 ?xzs1 ?xtp1 rfl rfl rfl rfl rfl rfl (by decide +kernel) (by decide +kernel) ?xhp1 ?xhn1 ?xga1 ?xgg1 ?xhd1 ?xth1 ?xve1, ma1 := ?xma1, su1 := ?xsu1, mb1 := ?xmb1, sb1 := ?xsb1, C2 := _, f2 := _, d2 := _, e2 := Fx.excAt_mk KX G ?xa2 ?xl2 ?xrv2 ?xsa2 ?xbe2 ?xty2 ?xkp2 ?xiC2 ?xtI2 ?xfn2 ?xlf2 ?xco2 ?xlc2 ?xvf2 ?xpf2 ?xlcc2 ?xlcl2 ?xzs2 ?xtp2 rfl rfl rfl rfl rfl rfl (by decide +kernel) (by decide +kernel) ?xhp2 ?xhn2 ?xga2 ?xgg2 ?xhd2 ?xth2 ?xve2, ma2 := ?xma2, su2 := ?xsu2, mb2 := ?xmb2, sb2 := ?xsb2, C3 := _, f3 := _, d3 := _, e3 := Fx.excAt_mk KX G ?xa3 ?xl3 ?xrv3 ?xsa3 ?xbe3 ?xty3 ?xkp3 ?xiC3 ?xtI3 ?xfn3 ?xlf3 ?xco3 ?xlc3 ?xvf3 ?xpf3 ?xlcc3 ?xlcl3 ?xzs3 ?xtp3 rfl rfl rfl rfl rfl rfl (by decide +kernel) (by decide +kernel) ?xhp3 ?xhn3 ?xga3 ?xgg3 ?xhd3 ?xth3 ?xve3, ma3 := ?xma3, su3 := ?xsu3, mb3 := ?xmb3, sb3 := ?xsb3, C4 := _, f4 := _, d4 := _, e4 := Fx.excAt_mk KX G ?xa4 ?xl4 ?xrv4 ?xsa4 ?xbe4 ?xty4 ?xkp4 ?xiC4 ?xtI4 ?xfn4 ?xlf4 ?xco4 ?xlc4 ?xvf4 ?xpf4 ?xlcc4 ?xlcl4 ?xzs4 ?xtp4 rfl rfl rfl rfl rfl rfl (by decide +kernel) (by decide +kernel) ?xhp4 ?xhn4 ?xga4 ?xgg4 ?xhd4 ?xth4 ?xve4, ma4 := ?xma4, su4 := ?xsu4, mb4 := ?xmb4, sb4 := ?xsb4, C5 := _, f5 := _, d5 := _, e5 := Fx.excAt_mk KX G ?xa5 ?xl5 ?xrv5 ?xsa5 ?xbe5 ?xty5 ?xkp5 ?xiC5 ?xtI5 ?xfn5 ?xlf5 ?xco5 ?xlc5 ?xvf5 ?xpf5 ?xlcc5 ?xlcl5 ?xzs5 ?xtp5 rfl rfl rfl rfl rfl rfl (by decide +kernel) (by decide +kernel) ?xhp5 ?xhn5 ?xga5 ?xgg5 ?xhd5 ?xth5 ?xve5, ma5 := ?xma5, su5 := ?xsu5, mb5 := ?xmb5, sb5 := ?xsb5, C6 := _, f6 := _, d6 := _, e6 := Fx.excAt_mk KX G ?xa6 ?xl6 ?xrv6 ?xsa6 ?xbe6 ?xty6 ?xkp6 ?xiC6 ?xtI6 ?xfn6 ?xlf6 ?xco6 ?xlc6 ?xvf6 ?xpf6 ?xlcc6 ?xlcl6 ?xzs6 ?xtp6 rfl rfl rfl rfl rfl rfl (by decide +kernel) (by decide +kernel) ?xhp6 ?xhn6 ?xga6 ?xgg6 ?xhd6 ?xth6 ?xve6, ma6 := ?xma6, su6 := ?xsu6, mb6 := ?xmb6, sb6 := ?xsb6, C7 := _, f7 := _, d7 := _, e7 := Fx.excAt_mk KX G ?xa7 ?xl7 ?xrv7 ?xsa7 ?xbe7 ?xty7 ?xkp7 ?xiC7 ?xtI7 ?xfn7 ?xlf7 ?xco7 ?xlc7 ?xvf7 ?xpf7 ?xlcc7 ?xlcl7 ?xzs7 ?xtp7 rfl rfl rfl rfl rfl rfl (by decide +kernel) (by decide +kernel) ?xhp7 ?xhn7 ?xga7 ?xgg7 ?xhd7 ?xth7 ?xve7, ma7 := ?xma7, su7 := ?xsu7, mb7 := ?xmb7, sb7 := ?xsb7, C8 := _, f8 := _, d8 := _, e8 := Fx.excAt_mk KX G ?xa8 ?xl8 ?xrv8 ?xsa8 ?xbe8 ?xty8 ?xkp8 ?xiC8 ?xtI8 ?xfn8 ?xlf8 ?xco8 ?xlc8 ?xvf8 ?xpf8 ?xlcc8 ?xlcl8 ?xzs8 ?xtp8 rfl rfl rfl rfl rfl rfl (by decide +kernel) (by decide +kernel) ?xhp8 ?xhn8 ?xga8 ?xgg8 ?xhd8 ?xth8 ?xve8, ma8 := ?xma8, su8 := ?xsu8, mb8 := ?xmb8, sb8 := ?xsb8, C9 := _, f9 := _, d9 := _, e9 := Fx.excAt_mk KX G ?xa9 ?xl9 ?xrv9 ?xsa9 ?xbe9 ?xty9 ?xkp9 ?xiC9 ?xtI9 ?xfn9 ?xlf9 ?xco9 ?xlc9 ?xvf9 ?xpf9 ?xlcc9 ?xlcl9 ?xzs9 ?xtp9 rfl rfl rfl rfl rfl rfl (by decide +kernel) (by decide +kernel) ?xhp9 ?xhn9 ?xga9 ?xgg9 ?xhd9 ?xth9 ?xve9, ma9 := ?xma9, su9 := ?xsu9, mb9 := ?xmb9, sb9 := ?xsb9, q0_0 := Fx.exm_mk ?xbe0 ?xlcl0 ?xty0 ?xq0_0, q0_1 := Fx.exm_mk ?xbe1 ?xlcl1 ?xty1 ?xq0_1, q0_2 := Fx.exm_mk ?xbe2 ?xlcl2 ?xty2 ?xq0_2, q0_3 := Fx.exm_mk ?xbe3 ?xlcl3 ?xty3 ?xq0_3, q0_4 := Fx.exm_mk ?xbe4 ?xlcl4 ?xty4 ?xq0_4, q0_5 := Fx.exm_mk ?xbe5 ?xlcl5 ?xty5 ?xq0_5, q0_6 := Fx.exm_mk ?xbe6 ?xlcl6 ?xty6 ?xq0_6, q0_7 := Fx.exm_mk ?xbe7 ?xlcl7 ?xty7 ?xq0_7, q0_8 := Fx.exm_mk ?xbe8 ?xlcl8 ?xty8 ?xq0_8, q0_9 := Fx.exm_mk ?xbe9 ?xlcl9 ?xty9 ?xq0_9, q1_0 := Fx.exm_mk ?xbe0 ?xlcl0 ?xty0 ?xq1_0, q1_1 := Fx.exm_mk ?xbe1 ?xlcl1 ?xty1 ?xq1_1, q1_2 := Fx.exm_mk ?xbe2 ?xlcl2 ?xty2 ?xq1_2, q1_3 := Fx.exm_mk ?xbe3 ?xlcl3 ?xty3 ?xq1_3, q1_4 := Fx.exm_mk ?xbe4 ?xlcl4 ?xty4 ?xq1_4, q1_5 := Fx.exm_mk ?xbe5 ?xlcl5 ?xty5 ?xq1_5, q1_6 := Fx.exm_mk ?xbe6 ?xlcl6 ?xty6 ?xq1_6, q1_7 := Fx.exm_mk ?xbe7 ?xlcl7 ?xty7 ?xq1_7, q1_8 := Fx.exm_mk ?xbe8 ?xlcl8 ?xty8 ?xq1_8, q1_9 := Fx.exm_mk ?xbe9 ?xlcl9 ?xty9 ?xq1_9, q2_0 := Fx.exm_mk ?xbe0 ?xlcl0 ?xty0 ?xq2_0, q2_1 := Fx.exm_mk ?xbe1 ?xlcl1 ?xty1 ?xq2_1, q2_2 := Fx.exm_mk ?xbe2 ?xlcl2 ?xty2 ?xq2_2, q2_3 := Fx.exm_mk ?xbe3 ?xlcl3 ?xty3 ?xq2_3, q2_4 := Fx.exm_mk ?xbe4 ?xlcl4 ?xty4 ?xq2_4, q2_5 := Fx.exm_mk ?xbe5 ?xlcl5 ?xty5 ?xq2_5, q2_6 := Fx.exm_mk ?xbe6 ?xlcl6 ?xty6 ?xq2_6, q2_7 := Fx.exm_mk ?xbe7 ?xlcl7 ?xty7 ?xq2_7, q2_8 := Fx.exm_mk ?xbe8 ?xlcl8 ?xty8 ?xq2_8, q2_9 := Fx.exm_mk ?xbe9 ?xlcl9 ?xty9 ?xq2_9, q3_0 := Fx.exm_mk ?xbe0 ?xlcl0 ?xty0 ?xq3_0, q3_1 := Fx.exm_mk ?xbe1 ?xlcl1 ?xty1 ?xq3_1, q3_2 := Fx.exm_mk ?xbe2 ?xlcl2 ?xty2 ?xq3_2, q3_3 := Fx.exm_mk ?xbe3 ?xlcl3 ?xty3 ?xq3_3, q3_4 := Fx.exm_mk ?xbe4 ?xlcl4 ?xty4 ?xq3_4, q3_5 := Fx.exm_mk ?xbe5 ?xlcl5 ?xty5 ?xq3_5, q3_6 := Fx.exm_mk ?xbe6 ?xlcl6 ?xty6 ?xq3_6, q3_7 := Fx.exm_mk ?xbe7 ?xlcl7 ?xty7 ?xq3_7, q3_8 := Fx.exm_mk ?xbe8 ?xlcl8 ?xty8 ?xq3_8, q3_9 := Fx.exm_mk ?xbe9 ?xlcl9 ?xty9 ?xq3_9, q4_0 := Fx.exm_mk ?xbe0 ?xlcl0 ?xty0 ?xq4_0, q4_1 := Fx.exm_mk ?xbe1 ?xlcl1 ?xty1 ?xq4_1, q4_2 := Fx.exm_mk ?xbe2 ?xlcl2 ?xty2 ?xq4_2, q4_3 := Fx.exm_mk ?xbe3 ?xlcl3 ?xty3 ?xq4_3, q4_4 := Fx.exm_mk ?xbe4 ?xlcl4 ?xty4 ?xq4_4, q4_5 := Fx.exm_mk ?xbe5 ?xlcl5 ?xty5 ?xq4_5, q4_6 := Fx.exm_mk ?xbe6 ?xlcl6 ?xty6 ?xq4_6, q4_7 := Fx.exm_mk ?xbe7 ?xlcl7 ?xty7 ?xq4_7, q4_8 := Fx.exm_mk ?xbe8 ?xlcl8 ?xty8 ?xq4_8, q4_9 := Fx.exm_mk ?xbe9 ?xlcl9 ?xty9 ?xq4_9, q5_0 := Fx.exm_mk ?xbe0 ?xlcl0 ?xty0 ?xq5_0, q5_1 := Fx.exm_mk ?xbe1 ?xlcl1 ?xty1 ?xq5_1, q5_2 := Fx.exm_mk ?xbe2 ?xlcl2 ?xty2 ?xq5_2, q5_3 := Fx.exm_mk ?xbe3 ?xlcl3 ?xty3 ?xq5_3, q5_4 := Fx.exm_mk ?xbe4 ?xlcl4 ?xty4 ?xq5_4, q5_5 := Fx.exm_mk ?xbe5 ?xlcl5 ?xty5 ?xq5_5, q5_6 := Fx.exm_mk ?xbe6 ?xlcl6 ?xty6 ?xq5_6, q5_7 := Fx.exm_mk ?xbe7 ?xlcl7 ?xty7 ?xq5_7, q5_8 := Fx.exm_mk ?xbe8 ?xlcl8 ?xty8 ?xq5_8, q5_9 := Fx.exm_mk ?xbe9 ?xlcl9 ?xty9 ?xq5_9, q6_0 := Fx.exm_mk ?xbe0 ?xlcl0 ?xty0 ?xq6_0, q6_1 := Fx.exm_mk ?xbe1 ?xlcl1 ?xty1 ?xq6_1, q6_2 := Fx.exm_mk ?xbe2 ?xlcl2 ?xty2 ?xq6_2, q6_3 := Fx.exm_mk ?xbe3 ?xlcl3 ?xty3 ?xq6_3, q6_4 := Fx.exm_mk ?xbe4 ?xlcl4 ?xty4 ?xq6_4, q6_5 := Fx.exm_mk ?xbe5 ?xlcl5 ?xty5 ?xq6_5, q6_6 := Fx.exm_mk ?xbe6 ?xlcl6 ?xty6 ?xq6_6, q6_7 := Fx.exm_mk ?xbe7 ?xlcl7 ?xty7 ?xq6_7, q6_8 := Fx.exm_mk ?xbe8 ?xlcl8 ?xty8 ?xq6_8, q6_9 := Fx.exm_mk ?xbe9 ?xlcl9 ?xty9 ?xq6_9, q7_0 := Fx.exm_mk ?xbe0 ?xlcl0 ?xty0 ?xq7_0, q7_1 := Fx.exm_mk ?xbe1 ?xlcl1 ?xty1 ?xq7_1, q7_2 := Fx.exm_mk ?xbe2 ?xlcl2 ?xty2 ?xq7_2, q7_3 := Fx.exm_mk ?xbe3 ?xlcl3 ?xty3 ?xq7_3, q7_4 := Fx.exm_mk ?xbe4 ?xlcl4 ?xty4 ?xq7_4, q7_5 := Fx.exm_mk ?xbe5 ?xlcl5 ?xty5 ?xq7_5, q7_6 := Fx.exm_mk ?xbe6 ?xlcl6 ?xty6 ?xq7_6, q7_7 := Fx.exm_mk ?xbe7 ?xlcl7 ?xty7 ?xq7_7, q7_8 := Fx.exm_mk ?xbe8 ?xlcl8 ?xty8 ?xq7_8, q7_9 := Fx.exm_mk ?xbe9 ?xlcl9 ?xty9 ?xq7_9, q8_0 := Fx.exm_mk ?xbe0 ?xlcl0 ?xty0 ?xq8_0, q8_1 := Fx.exm_mk ?xbe1 ?xlcl1 ?xty1 ?xq8_1, q8_2 := Fx.exm_mk ?xbe2 ?xlcl2 ?xty2 ?xq8_2, q8_3 := Fx.exm_mk ?xbe3 ?xlcl3 ?xty3 ?xq8_3, q8_4 := Fx.exm_mk ?xbe4 ?xlcl4 ?xty4 ?xq8_4, q8_5 := Fx.exm_mk ?xbe5 ?xlcl5 ?xty5 ?xq8_5, q8_6 := Fx.exm_mk ?xbe6 ?xlcl6 ?xty6 ?xq8_6, q8_7 := Fx.exm_mk ?xbe7 ?xlcl7 ?xty7 ?xq8_7, q8_8 := Fx.exm_mk ?xbe8 ?xlcl8 ?xty8 ?xq8_8, q8_9 := Fx.exm_mk ?xbe9 ?xlcl9 ?xty9 ?xq8_9, q9_0 := Fx.exm_mk ?xbe0 ?xlcl0 ?xty0 ?xq9_0, q9_1 := Fx.exm_mk ?xbe1 ?xlcl1 ?xty1 ?xq9_1, q9_2 := Fx.exm_mk ?xbe2 ?xlcl2 ?xty2 ?xq9_2, q9_3 := Fx.exm_mk ?xbe3 ?xlcl3 ?xty3 ?xq9_3, q9_4 := Fx.exm_mk ?xbe4 ?xlcl4 ?xty4 ?xq9_4, q9_5 := Fx.exm_mk ?xbe5 ?xlcl5 ?xty5 ?xq9_5, q9_6 := Fx.exm_mk ?xbe6 ?xlcl6 ?xty6 ?xq9_6, q9_7 := Fx.exm_mk ?xbe7 ?xlcl7 ?xty7 ?xq9_7, q9_8 := Fx.exm_mk ?xbe8 ?xlcl8 ?xty8 ?xq9_8, q9_9 := Fx.exm_mk ?xbe9 ?xlcl9 ?xty9 ?xq9_9, is0 := ⟨⟨?xga0, ?xgg0, ?xbe0, ?xhd0, ?xic0, ?xin, ?xit, ?xim0⟩, ?xik0⟩, is1 := ⟨⟨?xga1, ?xgg1, ?xbe1, ?xhd1, ?xic1, ?xin, ?xit, ?xim1⟩, ?xik1⟩, is2 := ⟨⟨?xga2, ?xgg2, ?xbe2, ?xhd2, ?xic2, ?xin, ?xit, ?xim2⟩, ?xik2⟩, is3 := ⟨⟨?xga3, ?xgg3, ?xbe3, ?xhd3, ?xic3, ?xin, ?xit, ?xim3⟩, ?xik3⟩, is4 := ⟨⟨?xga4, ?xgg4, ?xbe4, ?xhd4, ?xic4, ?xin, ?xit, ?xim4⟩, ?xik4⟩, is5 := ⟨⟨?xga5, ?xgg5, ?xbe5, ?xhd5, ?xic5, ?xin, ?xit, ?xim5⟩, ?xik5⟩, is6 := ⟨⟨?xga6, ?xgg6, ?xbe6, ?xhd6, ?xic6, ?xin, ?xit, ?xim6⟩, ?xik6⟩, is7 := ⟨⟨?xga7, ?xgg7, ?xbe7, ?xhd7, ?xic7, ?xin, ?xit, ?xim7⟩, ?xik7⟩, is8 := ⟨⟨?xga8, ?xgg8, ?xbe8, ?xhd8, ?xic8, ?xin, ?xit, ?xim8⟩, ?xik8⟩, is9 := ⟨⟨?xga9, ?xgg9, ?xbe9, ?xhd9, ?xic9, ?xin, ?xit, ?xim9⟩, ?xik9⟩, u_PAIRS := Fx.ktup_mk (ps := ["and", "or", "xor", "add", "sub", "eq", "less"]) KX G ?taPAIRS ?tlPAIRS ?tzPAIRS ?tbPAIRS rfl, u_ONES := Fx.ktup_mk (ps := ["not", "all", "any", "odd"]) KX G ?taONES ?tlONES ?tzONES ?tbONES rfl, u_KEPT := Fx.ktup_mk (ps := ["all", "any", "odd", "chip", "in", "reg", "next", "when", "wire", "out"]) KX G ?taKEPT ?tlKEPT ?tzKEPT ?tbKEPT rfl }) ⟨_, _, _, Fx.cls_mk KX G ?pa ?pmk ?pini ?pisf ?pkC ?pl ?pco ?pkf ?ppg ?phd ?ppo ?psa (Fx.no5 ?pn0 ?pn1 ?pn2 ?pn3 ?pn4) (fun _ _ _ _ _ _ us hl => match us, hl with | [_, _, _, _, _, _], _ => rfl)⟩ (Fx.cls_mk KX G ?ra ?rmk ?rini ?risf ?rkC ?rl ?rco ?rkf ?rpg ?rhd ?rpo ?rsa (Fx.no4 ?rn0 ?rn1 ?rn2 ?rn3) (fun _ _ _ _ _ _ us hl => match us, hl with | [_, _, _, _, _], _ => rfl)) rfl ?lcN ?v11 ?hT ?nT ?hC ?a0 ?l0 ?c0 ?k0 ?a1 ?l1 ?c1 ?k1 ?a2 ?l2 ?c2 ?k2 ?a3 ?l3 ?c3 ?k3 ?a4 ?l4 ?c4 ?k4 ?a5 ?l5 ?c5 ?k5 ?a6 ?l6 ?c6 ?k6 ?a7 ?l7 ?c7 ?k7 ?a8 ?l8 ?c8 ?k8 ?a9 ?l9 ?c9 ?k9 ?a10 ?l10 ?c10 ?k10 ?a11 ?l11 ?c11 ?k11 ?a12 ?l12 ?c12 ?k12 ?a13 ?l13 ?c13 ?k13 ?a14 ?l14 ?c14 ?k14 ?a15 ?l15 ?c15 ?k15 ?a16 ?l16 ?c16 ?k16 ?a17 ?l17 ?c17 ?k17 ?a18 ?l18 ?c18 ?k18 ?a19 ?l19 ?c19 ?k19 ?a20 ?l20 ?c20 ?k20 ?a21 ?l21 ?c21 ?k21 ?a22 ?l22 ?c22 ?k22 ?a23 ?l23 ?c23 ?k23 ?z0 ?z1 ?z2 ?z3 ?z4 ?z5 ?z6 ?z7 ?z8 ?z9 ?z10 ?y0
    (case a0 => k_is); (case l0 => k_is); (case c0 => k_is); (case k0 => k_is); (case a1 => k_is); (case l1 => k_is); (case c1 => k_is); (case k1 => k_is); (case a2 => k_is); (case l2 => k_is); (case c2 => k_is); (case k2 => k_is); (case a3 => k_is); (case l3 => k_is); (case c3 => k_is); (case k3 => k_is); (case a4 => k_is); (case l4 => k_is); (case c4 => k_is); (case k4 => k_is); (case a5 => k_is); (case l5 => k_is); (case c5 => k_is); (case k5 => k_is); (case a6 => k_is); (case l6 => k_is); (case c6 => k_is); (case k6 => k_is); (case a7 => k_is); (case l7 => k_is); (case c7 => k_is); (case k7 => k_is); (case a8 => k_is); (case l8 => k_is); (case c8 => k_is); (case k8 => k_is); (case a9 => k_is); (case l9 => k_is); (case c9 => k_is); (case k9 => k_is); (case a10 => k_is); (case l10 => k_is); (case c10 => k_is); (case k10 => k_is); (case a11 => k_is); (case l11 => k_is); (case c11 => k_is); (case k11 => k_is); (case a12 => k_is); (case l12 => k_is); (case c12 => k_is); (case k12 => k_is); (case a13 => k_is); (case l13 => k_is); (case c13 => k_is); (case k13 => k_is); (case a14 => k_is); (case l14 => k_is); (case c14 => k_is); (case k14 => k_is); (case a15 => k_is); (case l15 => k_is); (case c15 => k_is); (case k15 => k_is); (case a16 => k_is); (case l16 => k_is); (case c16 => k_is); (case k16 => k_is); (case a17 => k_is); (case l17 => k_is); (case c17 => k_is); (case k17 => k_is); (case a18 => k_is); (case l18 => k_is); (case c18 => k_is); (case k18 => k_is); (case a19 => k_is); (case l19 => k_is); (case c19 => k_is); (case k19 => k_is); (case a20 => k_is); (case l20 => k_is); (case c20 => k_is); (case k20 => k_is); (case a21 => k_is); (case l21 => k_is); (case c21 => k_is); (case k21 => k_is); (case a22 => k_is); (case l22 => k_is); (case c22 => k_is); (case k22 => k_is); (case a23 => k_is); (case l23 => k_is); (case c23 => k_is); (case k23 => k_is); (case z0 => k_is); (case z1 => k_is); (case z2 => k_is); (case z3 => k_is); (case z4 => k_is); (case z5 => k_is); (case z6 => k_is); (case z7 => k_is); (case z8 => k_is); (case z9 => k_is); (case z10 => k_is); (case y0 => k_is)
    (case xa0 => k_is); (case xl0 => k_is); (case xrv0 => decide +kernel); (case xsa0 => k_is); (case xbe0 => k_is); (case xty0 => k_is); (case xkp0 => k_is); (case xiC0 => k_is); (case xtI0 => k_is); (case xfn0 => k_is); (case xlf0 => k_is); (case xco0 => k_is); (case xlc0 => k_is); (case xvf0 => rfl); (case xpf0 => decide +kernel); (case xlcc0 => k_is); (case xlcl0 => k_is); (case xzs0 => k_is); (case xtp0 => decide +kernel); (case xhp0 => k_is); (case xhn0 => k_is); (case xga0 => k_is); (case xgg0 => k_is); (case xhd0 => k_is); (case xth0 => k_is); (case xve0 => k_is); (case xma0 => k_is); (case xsu0 => refine' Fx.sup_ve ?up0 ?uq0; (case up0 => k_is); (case uq0 => rfl)); (case xa1 => k_is); (case xl1 => k_is)
    (case xrv1 => decide +kernel); (case xsa1 => k_is); (case xbe1 => k_is); (case xty1 => k_is); (case xkp1 => k_is); (case xiC1 => k_is); (case xtI1 => k_is); (case xfn1 => k_is); (case xlf1 => k_is); (case xco1 => k_is); (case xlc1 => k_is); (case xvf1 => rfl); (case xpf1 => decide +kernel); (case xlcc1 => k_is); (case xlcl1 => k_is); (case xzs1 => k_is); (case xtp1 => decide +kernel); (case xhp1 => k_is); (case xhn1 => k_is); (case xga1 => k_is); (case xgg1 => k_is); (case xhd1 => k_is); (case xth1 => k_is); (case xve1 => k_is); (case xma1 => k_is); (case xmb1 => k_is); (case xsu1 => refine' Fx.sup_own ?up1 ?uq1 ?ur1 ?us1; (case up1 => k_is); (case uq1 => rfl); (case ur1 => k_is); (case us1 => k_is)); (case xsb1 => refine' Fx.sup_ve ?vp1 ?vq1; (case vp1 => k_is); (case vq1 => rfl)); (case xa2 => k_is); (case xl2 => k_is)
    (case xrv2 => decide +kernel); (case xsa2 => k_is); (case xbe2 => k_is); (case xty2 => k_is); (case xkp2 => k_is); (case xiC2 => k_is); (case xtI2 => k_is); (case xfn2 => k_is); (case xlf2 => k_is); (case xco2 => k_is); (case xlc2 => k_is); (case xvf2 => rfl); (case xpf2 => decide +kernel); (case xlcc2 => k_is); (case xlcl2 => k_is); (case xzs2 => k_is); (case xtp2 => decide +kernel); (case xhp2 => k_is); (case xhn2 => k_is); (case xga2 => k_is); (case xgg2 => k_is); (case xhd2 => k_is); (case xth2 => k_is); (case xve2 => k_is); (case xma2 => k_is); (case xmb2 => k_is); (case xsu2 => refine' Fx.sup_own ?up2 ?uq2 ?ur2 ?us2; (case up2 => k_is); (case uq2 => rfl); (case ur2 => k_is); (case us2 => k_is)); (case xsb2 => refine' Fx.sup_ve ?vp2 ?vq2; (case vp2 => k_is); (case vq2 => rfl)); (case xa3 => k_is); (case xl3 => k_is)
    (case xrv3 => decide +kernel); (case xsa3 => k_is); (case xbe3 => k_is); (case xty3 => k_is); (case xkp3 => k_is); (case xiC3 => k_is); (case xtI3 => k_is); (case xfn3 => k_is); (case xlf3 => k_is); (case xco3 => k_is); (case xlc3 => k_is); (case xvf3 => rfl); (case xpf3 => decide +kernel); (case xlcc3 => k_is); (case xlcl3 => k_is); (case xzs3 => k_is); (case xtp3 => decide +kernel); (case xhp3 => k_is); (case xhn3 => k_is); (case xga3 => k_is); (case xgg3 => k_is); (case xhd3 => k_is); (case xth3 => k_is); (case xve3 => k_is); (case xma3 => k_is); (case xmb3 => k_is); (case xsu3 => refine' Fx.sup_own ?up3 ?uq3 ?ur3 ?us3; (case up3 => k_is); (case uq3 => rfl); (case ur3 => k_is); (case us3 => k_is)); (case xsb3 => refine' Fx.sup_ve ?vp3 ?vq3; (case vp3 => k_is); (case vq3 => rfl)); (case xa4 => k_is); (case xl4 => k_is)
    (case xrv4 => decide +kernel); (case xsa4 => k_is); (case xbe4 => k_is); (case xty4 => k_is); (case xkp4 => k_is); (case xiC4 => k_is); (case xtI4 => k_is); (case xfn4 => k_is); (case xlf4 => k_is); (case xco4 => k_is); (case xlc4 => k_is); (case xvf4 => rfl); (case xpf4 => decide +kernel); (case xlcc4 => k_is); (case xlcl4 => k_is); (case xzs4 => k_is); (case xtp4 => decide +kernel); (case xhp4 => k_is); (case xhn4 => k_is); (case xga4 => k_is); (case xgg4 => k_is); (case xhd4 => k_is); (case xth4 => k_is); (case xve4 => k_is); (case xma4 => k_is); (case xmb4 => k_is); (case xsu4 => refine' Fx.sup_own ?up4 ?uq4 ?ur4 ?us4; (case up4 => k_is); (case uq4 => rfl); (case ur4 => k_is); (case us4 => k_is)); (case xsb4 => refine' Fx.sup_ve ?vp4 ?vq4; (case vp4 => k_is); (case vq4 => rfl)); (case xa5 => k_is); (case xl5 => k_is)
    (case xrv5 => decide +kernel); (case xsa5 => k_is); (case xbe5 => k_is); (case xty5 => k_is); (case xkp5 => k_is); (case xiC5 => k_is); (case xtI5 => k_is); (case xfn5 => k_is); (case xlf5 => k_is); (case xco5 => k_is); (case xlc5 => k_is); (case xvf5 => rfl); (case xpf5 => decide +kernel); (case xlcc5 => k_is); (case xlcl5 => k_is); (case xzs5 => k_is); (case xtp5 => decide +kernel); (case xhp5 => k_is); (case xhn5 => k_is); (case xga5 => k_is); (case xgg5 => k_is); (case xhd5 => k_is); (case xth5 => k_is); (case xve5 => k_is); (case xma5 => k_is); (case xmb5 => k_is); (case xsu5 => refine' Fx.sup_own ?up5 ?uq5 ?ur5 ?us5; (case up5 => k_is); (case uq5 => rfl); (case ur5 => k_is); (case us5 => k_is)); (case xsb5 => refine' Fx.sup_ve ?vp5 ?vq5; (case vp5 => k_is); (case vq5 => rfl)); (case xa6 => k_is); (case xl6 => k_is)
    (case xrv6 => decide +kernel); (case xsa6 => k_is); (case xbe6 => k_is); (case xty6 => k_is); (case xkp6 => k_is); (case xiC6 => k_is); (case xtI6 => k_is); (case xfn6 => k_is); (case xlf6 => k_is); (case xco6 => k_is); (case xlc6 => k_is); (case xvf6 => rfl); (case xpf6 => decide +kernel); (case xlcc6 => k_is); (case xlcl6 => k_is); (case xzs6 => k_is); (case xtp6 => decide +kernel); (case xhp6 => k_is); (case xhn6 => k_is); (case xga6 => k_is); (case xgg6 => k_is); (case xhd6 => k_is); (case xth6 => k_is); (case xve6 => k_is); (case xma6 => k_is); (case xmb6 => k_is); (case xsu6 => refine' Fx.sup_own ?up6 ?uq6 ?ur6 ?us6; (case up6 => k_is); (case uq6 => rfl); (case ur6 => k_is); (case us6 => k_is)); (case xsb6 => refine' Fx.sup_ve ?vp6 ?vq6; (case vp6 => k_is); (case vq6 => rfl)); (case xa7 => k_is); (case xl7 => k_is)
    (case xrv7 => decide +kernel); (case xsa7 => k_is); (case xbe7 => k_is); (case xty7 => k_is); (case xkp7 => k_is); (case xiC7 => k_is); (case xtI7 => k_is); (case xfn7 => k_is); (case xlf7 => k_is); (case xco7 => k_is); (case xlc7 => k_is); (case xvf7 => rfl); (case xpf7 => decide +kernel); (case xlcc7 => k_is); (case xlcl7 => k_is); (case xzs7 => k_is); (case xtp7 => decide +kernel); (case xhp7 => k_is); (case xhn7 => k_is); (case xga7 => k_is); (case xgg7 => k_is); (case xhd7 => k_is); (case xth7 => k_is); (case xve7 => k_is); (case xma7 => k_is); (case xmb7 => k_is); (case xsu7 => refine' Fx.sup_own ?up7 ?uq7 ?ur7 ?us7; (case up7 => k_is); (case uq7 => rfl); (case ur7 => k_is); (case us7 => k_is)); (case xsb7 => refine' Fx.sup_ve ?vp7 ?vq7; (case vp7 => k_is); (case vq7 => rfl)); (case xa8 => k_is); (case xl8 => k_is)
    (case xrv8 => decide +kernel); (case xsa8 => k_is); (case xbe8 => k_is); (case xty8 => k_is); (case xkp8 => k_is); (case xiC8 => k_is); (case xtI8 => k_is); (case xfn8 => k_is); (case xlf8 => k_is); (case xco8 => k_is); (case xlc8 => k_is); (case xvf8 => rfl); (case xpf8 => decide +kernel); (case xlcc8 => k_is); (case xlcl8 => k_is); (case xzs8 => k_is); (case xtp8 => decide +kernel); (case xhp8 => k_is); (case xhn8 => k_is); (case xga8 => k_is); (case xgg8 => k_is); (case xhd8 => k_is); (case xth8 => k_is); (case xve8 => k_is); (case xma8 => k_is); (case xmb8 => k_is); (case xsu8 => refine' Fx.sup_own ?up8 ?uq8 ?ur8 ?us8; (case up8 => k_is); (case uq8 => rfl); (case ur8 => k_is); (case us8 => k_is)); (case xsb8 => refine' Fx.sup_ve ?vp8 ?vq8; (case vp8 => k_is); (case vq8 => rfl)); (case xa9 => k_is); (case xl9 => k_is)
    (case xrv9 => decide +kernel); (case xsa9 => k_is); (case xbe9 => k_is); (case xty9 => k_is); (case xkp9 => k_is); (case xiC9 => k_is); (case xtI9 => k_is); (case xfn9 => k_is); (case xlf9 => k_is); (case xco9 => k_is); (case xlc9 => k_is); (case xvf9 => rfl); (case xpf9 => decide +kernel); (case xlcc9 => k_is); (case xlcl9 => k_is); (case xzs9 => k_is); (case xtp9 => decide +kernel); (case xhp9 => k_is); (case xhn9 => k_is); (case xga9 => k_is); (case xgg9 => k_is); (case xhd9 => k_is); (case xth9 => k_is); (case xve9 => k_is); (case xma9 => k_is); (case xmb9 => k_is); (case xsu9 => refine' Fx.sup_own ?up9 ?uq9 ?ur9 ?us9; (case up9 => k_is); (case uq9 => rfl); (case ur9 => k_is); (case us9 => k_is)); (case xsb9 => refine' Fx.sup_ve ?vp9 ?vq9; (case vp9 => k_is); (case vq9 => rfl)); (case xq0_0 => k_is); (case xq0_1 => k_is)
    (case xq0_2 => k_is); (case xq0_3 => k_is); (case xq0_4 => k_is); (case xq0_5 => k_is); (case xq0_6 => k_is); (case xq0_7 => k_is); (case xq0_8 => k_is); (case xq0_9 => k_is); (case xq1_0 => k_is); (case xq1_1 => k_is); (case xq1_2 => k_is); (case xq1_3 => k_is); (case xq1_4 => k_is); (case xq1_5 => k_is); (case xq1_6 => k_is); (case xq1_7 => k_is); (case xq1_8 => k_is); (case xq1_9 => k_is); (case xq2_0 => k_is); (case xq2_1 => k_is); (case xq2_2 => k_is); (case xq2_3 => k_is); (case xq2_4 => k_is); (case xq2_5 => k_is); (case xq2_6 => k_is); (case xq2_7 => k_is); (case xq2_8 => k_is); (case xq2_9 => k_is); (case xq3_0 => k_is); (case xq3_1 => k_is)
    (case xq3_2 => k_is); (case xq3_3 => k_is); (case xq3_4 => k_is); (case xq3_5 => k_is); (case xq3_6 => k_is); (case xq3_7 => k_is); (case xq3_8 => k_is); (case xq3_9 => k_is); (case xq4_0 => k_is); (case xq4_1 => k_is); (case xq4_2 => k_is); (case xq4_3 => k_is); (case xq4_4 => k_is); (case xq4_5 => k_is); (case xq4_6 => k_is); (case xq4_7 => k_is); (case xq4_8 => k_is); (case xq4_9 => k_is); (case xq5_0 => k_is); (case xq5_1 => k_is); (case xq5_2 => k_is); (case xq5_3 => k_is); (case xq5_4 => k_is); (case xq5_5 => k_is); (case xq5_6 => k_is); (case xq5_7 => k_is); (case xq5_8 => k_is); (case xq5_9 => k_is); (case xq6_0 => k_is); (case xq6_1 => k_is)
    (case xq6_2 => k_is); (case xq6_3 => k_is); (case xq6_4 => k_is); (case xq6_5 => k_is); (case xq6_6 => k_is); (case xq6_7 => k_is); (case xq6_8 => k_is); (case xq6_9 => k_is); (case xq7_0 => k_is); (case xq7_1 => k_is); (case xq7_2 => k_is); (case xq7_3 => k_is); (case xq7_4 => k_is); (case xq7_5 => k_is); (case xq7_6 => k_is); (case xq7_7 => k_is); (case xq7_8 => k_is); (case xq7_9 => k_is); (case xq8_0 => k_is); (case xq8_1 => k_is); (case xq8_2 => k_is); (case xq8_3 => k_is); (case xq8_4 => k_is); (case xq8_5 => k_is); (case xq8_6 => k_is); (case xq8_7 => k_is); (case xq8_8 => k_is); (case xq8_9 => k_is); (case xq9_0 => k_is); (case xq9_1 => k_is)
    (case xq9_2 => k_is); (case xq9_3 => k_is); (case xq9_4 => k_is); (case xq9_5 => k_is); (case xq9_6 => k_is); (case xq9_7 => k_is); (case xq9_8 => k_is); (case xq9_9 => k_is); (case xic0 => k_is); (case xim0 => k_is); (case xik0 => kernel_rfl); (case xic1 => k_is); (case xim1 => k_is); (case xik1 => kernel_rfl); (case xic2 => k_is); (case xim2 => k_is); (case xik2 => kernel_rfl); (case xic3 => k_is); (case xim3 => k_is); (case xik3 => kernel_rfl); (case xic4 => k_is); (case xim4 => k_is); (case xik4 => kernel_rfl); (case xic5 => k_is); (case xim5 => k_is); (case xik5 => kernel_rfl); (case xic6 => k_is); (case xim6 => k_is); (case xik6 => kernel_rfl); (case xic7 => k_is)
    (case xim7 => k_is); (case xik7 => kernel_rfl); (case xic8 => k_is); (case xim8 => k_is); (case xik8 => kernel_rfl); (case xic9 => k_is); (case xim9 => k_is); (case xik9 => kernel_rfl); (case xin => k_is); (case xit => k_is); (case taPAIRS => k_is); (case tlPAIRS => k_is); (case tzPAIRS => decide +kernel); (case tbPAIRS => decide +kernel); (case taONES => k_is); (case tlONES => k_is); (case tzONES => decide +kernel); (case tbONES => decide +kernel); (case taKEPT => k_is); (case tlKEPT => k_is); (case tzKEPT => decide +kernel); (case tbKEPT => decide +kernel)
    (case pa => k_is); (case pmk => k_is); (case pini => k_is); (case pisf => k_is); (case pkC => k_is); (case pl => k_is); (case pco => k_is); (case pkf => k_is); (case ppg => k_is); (case phd => k_is); (case ppo => k_is); (case psa => k_is); (case pn0 => k_is); (case pn1 => k_is); (case pn2 => k_is); (case pn3 => k_is); (case pn4 => k_is); (case ra => k_is); (case rmk => k_is); (case rini => k_is); (case risf => k_is); (case rkC => k_is); (case rl => k_is); (case rco => k_is); (case rkf => k_is); (case rpg => k_is); (case rhd => k_is); (case rpo => k_is); (case rsa => k_is); (case rn0 => k_is)
    (case rn1 => k_is); (case rn2 => k_is); (case rn3 => k_is)
    (case lcN => k_is); (case v11 => rfl)
    (case hC => kernel_rfl)
    (case hT => exact PySem.W.km_tabs_of Y _ (by k_mem))
    (case nT => kernel_rfl)
