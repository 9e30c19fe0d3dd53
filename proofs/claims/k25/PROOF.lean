import PyProof.Rows.All
import Wide.All
import OpenK.AllK
import Wide.FinOn
import HandS.ForMost
import HandS.Defaults
import HandS.IsInst
import HandS.TupAny
import HandS.TupLe
import HandS.Deep
import HandS.DictComp
import HandS.Conv
import HandS.Wide
import HandS.WideBits
import HandS.Style
import HandS.Small
import HandS.Walk
import HandS.Flow
import HandS.WordsDict
import HandS.Codes
import KE.GoesMore
import HandS.SortInts
import KE.KDictList
import PyProof.DictValues
import HandS.SortOrd
import HandS.SortRule
import PyProof.StrBlock2
import PyProof.Rows.StrJoinRep
import HandS.SetTxt0
import HandS.SetFor
import HandS.Strs
import PySem.Challenge.RW_recallhouse_k25_ways_followed_event_by_e
set_option Elab.async false
set_option linter.all false
set_option maxRecDepth 100000
set_option maxHeartbeats 4000000
/-! Z: a data level over the hand layer: values as data (D), what stands for them in a heap (Rep), slots (Sat), readings by their data (WE, WT, WA, WS). -/
namespace Z
open PySem PySem.Spec PyProof.Rows L2

inductive D where
  | non | bl (b : Bool) | int (i : Int) | str (s : Str)
  | tup (xs : List D) | lst (xs : List D) | fl (ns : List Int) | dic (kvs : List (Key × D)) | ins (C : Addr) (fs : List (Str × D))
  | clv (v : V)

abbrev AS := Addr → Prop
/-- a list that is read: one that the heap tells and M lacks, or one of the written part -/
def SqM (K : PySem.W.Frag) (M : AS) (H : Hp) (a : Addr) (xs : List V) : Prop :=
  (Rd H a (.lst xs) ∧ ¬ M a) ∨ ∃ (o : Obj) (its : Array Value) (n : Nat), K.lookup a = some o ∧ o.cls = .type "list" ∧ o.dict = none ∧ o.data = .seq its n ∧ its.size ≤ sizeLine ∧ Vals xs its.toList
theorem SqM.sql {K : PySem.W.Frag} {M : AS} {H : Hp} {a : Addr} {xs : List V} (h : SqM K M H a xs) : SqL K H a xs := h.elim (fun z => .inl z.1) .inr

mutual
inductive Rep (K : PySem.W.Frag) (M : AS) (H : Hp) : V → D → Prop
  | non : Rep K M H .non .non
  | bl (b : Bool) : Rep K M H (.bl b) (.bl b)
  | int (i : Int) : Rep K M H (.int i) (.int i)
  | str (s : Str) : Rep K M H (.str s) (.str s)
  | tup {a : Addr} {vs : List V} {xs : List D} : H a = some (.tup vs) → ¬ M a → RepL K M H vs xs → Rep K M H (.ref a) (.tup xs)
  | lst {a : Addr} {vs : List V} {xs : List D} : H a = some (.lst vs) → ¬ M a → RepL K M H vs xs → Rep K M H (.ref a) (.lst xs)
  | fl {a : Addr} {ns : List Int} : SqM K M H a (ns.map V.int) → Rep K M H (.ref a) (.fl ns)
  | dic {a : Addr} {vs : List (Key × V)} {xs : List (Key × D)} : Rd H a (.dK vs) → ¬ M a → RepK K M H vs xs → Rep K M H (.ref a) (.dic xs)
  | ins {a C dx : Addr} {vs : List (Str × V)} {xs : List (Str × D)} : H a = some (.ins C dx vs) → ¬ M a → RepF K M H vs xs → Rep K M H (.ref a) (.ins C xs)
  | clv (v : V) : Rep K M H v (.clv v)
inductive RepL (K : PySem.W.Frag) (M : AS) (H : Hp) : List V → List D → Prop
  | nil : RepL K M H [] []
  | cons {v : V} {vs : List V} {x : D} {xs : List D} : Rep K M H v x → RepL K M H vs xs → RepL K M H (v :: vs) (x :: xs)
inductive RepK (K : PySem.W.Frag) (M : AS) (H : Hp) : List (Key × V) → List (Key × D) → Prop
  | nil : RepK K M H [] []
  | cons {k : Key} {v : V} {vs : List (Key × V)} {x : D} {xs : List (Key × D)} : Rep K M H v x → RepK K M H vs xs → RepK K M H ((k, v) :: vs) ((k, x) :: xs)
inductive RepF (K : PySem.W.Frag) (M : AS) (H : Hp) : List (Str × V) → List (Str × D) → Prop
  | nil : RepF K M H [] []
  | cons {k : Str} {v : V} {vs : List (Str × V)} {x : D} {xs : List (Str × D)} : Rep K M H v x → RepF K M H vs xs → RepF K M H ((k, v) :: vs) ((k, x) :: xs)
end

/-- what a frozen thing may meet: kept, or a dict locked -/
def Kp (H H' : Hp) (a : Addr) : Prop := ∀ o, H a = some o → H' a = some o ∨ ∃ kvs od, o = .dK kvs ∧ H' a = some (.frz od (.dK kvs))
theorem Kp.of {H H' : Hp} {a : Addr} (h : ∀ o, H a = some o → H' a = some o) : Kp H H' a := fun o e => .inl (h o e)
theorem Kp.rdl {H H' : Hp} {a : Addr} {xs : List V} (k : Kp H H' a) (h : Rd H a (.lst xs)) : Rd H' a (.lst xs) := by
  rcases h with h | ⟨o, h⟩
  · rcases k _ h with q | ⟨_, _, e, _⟩
    · exact .inl q
    · cases e
  · rcases k _ h with q | ⟨_, _, e, _⟩
    · exact .inr ⟨o, q⟩
    · cases e
theorem Kp.rdk {H H' : Hp} {a : Addr} {xs : List (Key × V)} (k : Kp H H' a) (h : Rd H a (.dK xs)) : Rd H' a (.dK xs) := by
  rcases h with h | ⟨o, h⟩
  · rcases k _ h with q | ⟨_, od, e, q⟩
    · exact .inl q
    · cases e; exact .inr ⟨od, q⟩
  · rcases k _ h with q | ⟨_, _, e, _⟩
    · exact .inr ⟨o, q⟩
    · cases e
theorem rd_some {H : Hp} {a : Addr} {u : HO} (h : Rd H a u) : H a ≠ none := by
  rcases h with h | ⟨o, h⟩ <;> rw [h] <;> intro e <;> cases e
theorem some_ne {H : Hp} {a : Addr} {u : HO} (h : H a = some u) : H a ≠ none := by rw [h]; intro e; cases e
section
variable {K : PySem.W.Frag} {M M' : AS} {H H' : Hp}
def Mv (M : AS) (H : Hp) (M' : AS) (H' : Hp) : Prop := ∀ a, ¬ M a → H a ≠ none → Kp H H' a ∧ ¬ M' a
mutual
theorem Rep.mv (k : Mv M H M' H') : ∀ {v : V} {d : D}, Rep K M H v d → Rep K M' H' v d
  | _, _, .non => .non
  | _, _, .bl b => .bl b
  | _, _, .int i => .int i
  | _, _, .str s => .str s
  | _, _, .clv v => .clv v
  | _, _, .tup h n r => by
    obtain ⟨q, w⟩ := k _ n (some_ne h)
    rcases q _ h with q | ⟨_, _, e, _⟩
    · exact .tup q w (RepL.mv k r)
    · cases e
  | _, _, .lst h n r => by
    obtain ⟨q, w⟩ := k _ n (some_ne h)
    rcases q _ h with q | ⟨_, _, e, _⟩
    · exact .lst q w (RepL.mv k r)
    · cases e
  | _, _, .fl h => by
    refine .fl ?_
    rcases h with ⟨h, n⟩ | h
    · obtain ⟨q, w⟩ := k _ n (rd_some h)
      exact .inl ⟨q.rdl h, w⟩
    · exact .inr h
  | _, _, .dic h n r => by
    obtain ⟨q, w⟩ := k _ n (rd_some h)
    exact .dic (q.rdk h) w (RepK.mv k r)
  | _, _, .ins h n r => by
    obtain ⟨q, w⟩ := k _ n (some_ne h)
    rcases q _ h with q | ⟨_, _, e, _⟩
    · exact .ins q w (RepF.mv k r)
    · cases e
theorem RepL.mv (k : Mv M H M' H') : ∀ {v : List V} {d : List D}, RepL K M H v d → RepL K M' H' v d
  | _, _, .nil => .nil
  | _, _, .cons h r => .cons (Rep.mv k h) (RepL.mv k r)
theorem RepK.mv (k : Mv M H M' H') : ∀ {v : List (Key × V)} {d : List (Key × D)}, RepK K M H v d → RepK K M' H' v d
  | _, _, .nil => .nil
  | _, _, .cons h r => .cons (Rep.mv k h) (RepK.mv k r)
theorem RepF.mv (k : Mv M H M' H') : ∀ {v : List (Str × V)} {d : List (Str × D)}, RepF K M H v d → RepF K M' H' v d
  | _, _, .nil => .nil
  | _, _, .cons h r => .cons (Rep.mv k h) (RepF.mv k r)
end
theorem RepL.length : ∀ {vs : List V} {xs : List D}, RepL K M H vs xs → vs.length = xs.length
  | _, _, .nil => rfl
  | _, _, .cons _ r => congrArg (· + 1) (RepL.length r)
theorem RepL.get : ∀ {vs : List V} {xs : List D} {i : Nat} {x : D}, RepL K M H vs xs → xs[i]? = some x → ∃ v, vs[i]? = some v ∧ Rep K M H v x
  | _, _, _, _, .nil, e => by simp at e
  | _, _, 0, _, .cons r _, e => by simp at e; subst e; exact ⟨_, rfl, r⟩
  | _, _, i + 1, _, .cons _ r, e => by
    obtain ⟨v, h1, h2⟩ := RepL.get (i := i) r (by simpa using e)
    exact ⟨v, by simpa using h1, h2⟩
theorem RepL.getV : ∀ {vs : List V} {xs : List D} {i : Nat} {v : V}, RepL K M H vs xs → vs[i]? = some v → ∃ x, xs[i]? = some x ∧ Rep K M H v x
  | _, _, _, _, .nil, e => by simp at e
  | _, _, 0, _, .cons r _, e => by simp at e; subst e; exact ⟨_, rfl, r⟩
  | _, _, i + 1, _, .cons _ r, e => by
    obtain ⟨v, h1, h2⟩ := RepL.getV (i := i) r (by simpa using e)
    exact ⟨v, by simpa using h1, h2⟩
theorem RepL.append : ∀ {vs ws : List V} {xs ys : List D}, RepL K M H vs xs → RepL K M H ws ys → RepL K M H (vs ++ ws) (xs ++ ys)
  | _, _, _, _, .nil, s => s
  | _, _, _, _, .cons h r, s => .cons h (RepL.append r s)
theorem RepL.one {v : V} {x : D} (h : Rep K M H v x) : RepL K M H [v] [x] := .cons h .nil
theorem RepL.take : ∀ {vs : List V} {xs : List D} (n : Nat), RepL K M H vs xs → RepL K M H (vs.take n) (xs.take n)
  | _, _, 0, _ => .nil
  | _, _, _ + 1, .nil => .nil
  | _, _, n + 1, .cons h r => .cons h (RepL.take n r)
theorem RepL.drop : ∀ {vs : List V} {xs : List D} (n : Nat), RepL K M H vs xs → RepL K M H (vs.drop n) (xs.drop n)
  | _, _, 0, r => r
  | _, _, _ + 1, .nil => .nil
  | _, _, n + 1, .cons _ r => RepL.drop n r
theorem RepL.set {v : V} {x : D} (h : Rep K M H v x) : ∀ {vs : List V} {xs : List D} (i : Nat), RepL K M H vs xs → RepL K M H (vs.set i v) (xs.set i x)
  | _, _, _, .nil => .nil
  | _, _, 0, .cons _ t => .cons h t
  | _, _, i + 1, .cons q t => .cons q (RepL.set h i t)
theorem RepL.ints : ∀ {vs : List V} {ns : List Int}, RepL K M H vs (ns.map D.int) → vs = ns.map V.int
  | _, [], .nil => rfl
  | _, _ :: _, .cons (.int _) r => by rw [RepL.ints r]; rfl
theorem RepL.ofInts : ∀ (ns : List Int), RepL K M H (ns.map V.int) (ns.map D.int)
  | [] => .nil
  | i :: r => .cons (.int i) (RepL.ofInts r)
theorem RepL.strs : ∀ {vs : List V} {ns : List Str}, RepL K M H vs (ns.map D.str) → vs = ns.map V.str
  | _, [], .nil => rfl
  | _, _ :: _, .cons (.str _) r => by rw [RepL.strs r]; rfl
theorem RepL.ofStrs : ∀ (ns : List Str), RepL K M H (ns.map V.str) (ns.map D.str)
  | [] => .nil
  | i :: r => .cons (.str i) (RepL.ofStrs r)
theorem RepL.bools : ∀ {vs : List V} {ns : List Bool}, RepL K M H vs (ns.map D.bl) → vs = ns.map V.bl
  | _, [], .nil => rfl
  | _, _ :: _, .cons (.bl _) r => by rw [RepL.bools r]; rfl
theorem RepL.ofBools : ∀ (ns : List Bool), RepL K M H (ns.map V.bl) (ns.map D.bl)
  | [] => .nil
  | i :: r => .cons (.bl i) (RepL.ofBools r)
/-- a value at a key, as data -/
def valD {κ : Type} [DecidableEq κ] (kvs : List (κ × D)) (k : κ) : Option D := (kvs.find? fun kv => decide (kv.1 = k)).map (·.2)
inductive RepO (K : PySem.W.Frag) (M : AS) (H : Hp) : Option V → Option D → Prop
  | none : RepO K M H none none
  | some {v : V} {d : D} (h : Rep K M H v d) : RepO K M H (some v) (some d)
theorem RepK.val : ∀ {vs : List (Key × V)} {xs : List (Key × D)} (k : Key), RepK K M H vs xs → RepO K M H (valV vs k) (valD xs k)
  | _, _, _, .nil => .none
  | (k', v) :: vs, (_, x) :: xs, k, .cons h r => by
    have ih := RepK.val k r
    unfold valV valD at ih ⊢
    by_cases e : k' = k
    · rw [List.find?_cons_of_pos (by simpa using e), List.find?_cons_of_pos (by simpa using e)]
      exact .some h
    · rw [List.find?_cons_of_neg (by simpa using e), List.find?_cons_of_neg (by simpa using e)]
      exact ih
theorem RepK.length : ∀ {vs : List (Key × V)} {xs : List (Key × D)}, RepK K M H vs xs → vs.length = xs.length
  | _, _, .nil => rfl
  | _, _, .cons _ r => congrArg (· + 1) (RepK.length r)
theorem RepK.keys : ∀ {vs : List (Key × V)} {xs : List (Key × D)}, RepK K M H vs xs → vs.map (·.1) = xs.map (·.1)
  | _, _, .nil => rfl
  | _, _, .cons _ r => by
    have := RepK.keys r
    simp [this]
theorem RepF.lookup : ∀ {vs : List (Str × V)} {xs : List (Str × D)} {f : Str} {x : D}, RepF K M H vs xs → xs.lookup f = some x → ∃ v, vs.lookup f = some v ∧ Rep K M H v x
  | _, _, _, _, .nil, e => by cases e
  | (k, v) :: vs, (_, y) :: xs, f, x, .cons h r, e => by
    rw [List.lookup_cons] at e ⊢
    cases q : (f == k) with
    | true =>
      rw [q] at e
      cases e
      exact ⟨v, rfl, h⟩
    | false =>
      rw [q] at e
      exact RepF.lookup r e
theorem RepF.lookup_none : ∀ {vs : List (Str × V)} {xs : List (Str × D)} {f : Str}, RepF K M H vs xs → xs.lookup f = none → vs.lookup f = none
  | _, _, _, .nil, e => rfl
  | (k, v) :: vs, (_, y) :: xs, f, .cons h r, e => by
    rw [List.lookup_cons] at e ⊢
    cases q : (f == k) with
    | true =>
      rw [q] at e
      cases e
    | false =>
      rw [q] at e
      exact RepF.lookup_none r e
end

/-! ### slots -/
inductive AV where
  | dat (d : D) | own (xs : List D) | ownD (kvs : List (Key × D)) | well
abbrev Sl := List (Option AV)

def wellTop : Int := 2 ^ 1050000
/-- a well of draws: three ints -/
def WellAt (H : Hp) (a : Addr) : Prop := ∃ x y z : Int, H a = some (.lst [.int x, .int y, .int z]) ∧ 0 ≤ x ∧ x ≤ x ∧ 0 ≤ y ∧ y < 2147483648 ∧ 0 ≤ z

/-- a def's activation: what may not be told of (M0), its wells (W), the heap at its entry -/
structure Act where
  M0 : AS
  W : AS
  G : Hp

/-- all but the wells is kept, wells stay wells -/
structure Fr (W : AS) (H H' : Hp) : Prop where
  kp : ∀ a o, ¬ W a → H a = some o → H' a = some o
  wl : ∀ a, W a → WellAt H a → WellAt H' a
theorem Fr.refl {W : AS} {H : Hp} : Fr W H H := ⟨fun _ _ _ h => h, fun _ _ h => h⟩
theorem Fr.trans {W : AS} {H H1 H2 : Hp} (a : Fr W H H1) (b : Fr W H1 H2) : Fr W H H2 := ⟨fun x o n h => b.kp x o n (a.kp x o n h), fun x w h => b.wl x w (a.wl x w h)⟩
theorem Fr.new {W : AS} {H : Hp} {p : Addr} {o : HO} (h : H p = none) (hw : ¬ W p) : Fr W H (upd H p o) :=
  ⟨fun a u _ e => by rw [upd_ne (ne_of_none e h)]; exact e, fun a w ⟨x, y, z, e, r⟩ => ⟨x, y, z, by rw [upd_ne (fun q : a = p => hw (by rw [← q]; exact w))]; exact e, r⟩⟩
/-- an object younger than H changes -/
theorem Fr.upd {W : AS} {H H' : Hp} {p : Addr} {o : HO} (f : Fr W H H') (h : H p = none) (hw : ¬ W p) : Fr W H (upd H' p o) :=
  ⟨fun a u n e => by rw [upd_ne (ne_of_none e h)]; exact f.kp a u n e, fun a w q => by
    obtain ⟨x, y, z, e, r⟩ := f.wl a w q
    exact ⟨x, y, z, by rw [upd_ne (fun q : a = p => hw (by rw [← q]; exact w))]; exact e, r⟩⟩
theorem Fr.back {W : AS} {H H' : Hp} (f : Fr W H H') {a : Addr} (hw : ∀ a, W a → WellAt H a) (h : H' a = none) : H a = none := by
  cases e : H a with
  | none => rfl
  | some o =>
    by_cases w : W a
    · obtain ⟨x, y, z, e', _⟩ := f.wl a w (hw a w)
      rw [e'] at h; cases h
    · rw [f.kp a o w e] at h; cases h

def isOwn : AV → Bool
  | .own _ => true
  | .ownD _ => true
  | _ => false

def RepA (K : PySem.W.Frag) (A : Act) (M : AS) (H : Hp) (v : V) : AV → Prop
  | .dat d => Rep K M H v d
  | .own xs => ∃ a vs, v = .ref a ∧ M a ∧ A.G a = none ∧ H a = some (.lst vs) ∧ RepL K M H vs xs
  | .ownD xs => ∃ a vs, v = .ref a ∧ M a ∧ A.G a = none ∧ H a = some (.dK vs) ∧ RepK K M H vs xs
  | .well => ∃ a, v = .ref a ∧ A.W a

structure Sat (K : PySem.W.Frag) (A : Act) (M : AS) (H : Hp) (σ : L2.St) (δ : Sl) : Prop where
  slot : ∀ (i : Nat) (av : AV), δ[i]? = some (some av) → ∃ v, σ[i]? = some (some v) ∧ RepA K A M H v av
  dis : ∀ (i j : Nat) (av bv : AV) (a : Addr), i ≠ j → δ[i]? = some (some av) → δ[j]? = some (some bv) → isOwn av = true → isOwn bv = true → σ[i]? = some (some (.ref a)) → σ[j]? = some (some (.ref a)) → False
  len : σ.length = δ.length
  trk : ∀ a, M a → H a ≠ none
  m0 : ∀ a, A.M0 a → M a
  w0 : ∀ a, A.W a → A.M0 a
  g0 : ∀ a, A.M0 a → A.G a ≠ none
  wel : ∀ a, A.W a → WellAt H a
  welG : ∀ a, A.W a → WellAt A.G a
  fr : Fr A.W A.G H
section
variable {K : PySem.W.Frag} {A : Act} {M : AS} {H H' : Hp} {σ : L2.St} {δ : Sl}
theorem Fr.mv {W : AS} (f : Fr W H H') (hw : ∀ a, W a → M a) : Mv M H M H' := fun a n _ => ⟨Kp.of fun o e => f.kp a o (fun w => n (hw a w)) e, n⟩
theorem RepA.step {v : V} {av : AV} (f : Fr A.W H H') (hw : ∀ a, A.W a → A.M0 a) (h0 : ∀ a, A.M0 a → M a) (g0 : ∀ a, A.M0 a → A.G a ≠ none) (h : RepA K A M H v av) : RepA K A M H' v av := by
  have mv : Mv M H M H' := f.mv fun a w => h0 a (hw a w)
  cases av with
  | dat d => exact Rep.mv mv h
  | own xs =>
    obtain ⟨a, vs, e, m, g, q, r⟩ := h
    exact ⟨a, vs, e, m, g, f.kp a _ (fun w => g0 a (hw a w) g) q, RepL.mv mv r⟩
  | ownD xs =>
    obtain ⟨a, vs, e, m, g, q, r⟩ := h
    exact ⟨a, vs, e, m, g, f.kp a _ (fun w => g0 a (hw a w) g) q, RepK.mv mv r⟩
  | well => exact h
theorem Fr.ex {W : AS} (f : Fr W H H') (hw : ∀ a, W a → WellAt H a) {a : Addr} (h : H a ≠ none) : H' a ≠ none := fun q => h (f.back hw q)
theorem Sat.step (S : Sat K A M H σ δ) (f : Fr A.W H H') : Sat K A M H' σ δ where
  slot := fun i av e => by
    obtain ⟨v, h1, h2⟩ := S.slot i av e
    exact ⟨v, h1, h2.step f S.w0 S.m0 S.g0⟩
  dis := S.dis
  len := S.len
  trk := fun a m => f.ex S.wel (S.trk a m)
  m0 := S.m0
  w0 := S.w0
  g0 := S.g0
  wel := fun a w => f.wl a w (S.wel a w)
  welG := S.welG
  fr := S.fr.trans f
end
/-- where a value may not stand: b: it is to be kept in a slot -/
def Y (A : Act) (M : AS) (b : Bool) : AS := if b = true then M else A.M0
theorem Sat.yt {K : PySem.W.Frag} {A : Act} {M : AS} {H : Hp} {σ : L2.St} {δ : Sl} (S : Sat K A M H σ δ) {b : Bool} : ∀ a, Y A M b a → M a := fun a h => by
  cases b with
  | true => exact h
  | false => exact S.m0 a h
theorem Sat.wy {K : PySem.W.Frag} {A : Act} {M : AS} {H : Hp} {σ : L2.St} {δ : Sl} (S : Sat K A M H σ δ) {b : Bool} : ∀ a, A.W a → Y A M b a := fun a h => by
  cases b with
  | true => exact S.m0 a (S.w0 a h)
  | false => exact S.w0 a h
theorem Rep.sub {K : PySem.W.Frag} {M M' : AS} {H : Hp} {v : V} {d : D} (h : Rep K M H v d) (s : ∀ a, M' a → M a) : Rep K M' H v d := Rep.mv (fun a n _ => ⟨Kp.of fun _ e => e, fun m => n (s a m)⟩) h
theorem RepL.sub {K : PySem.W.Frag} {M M' : AS} {H : Hp} {v : List V} {d : List D} (h : RepL K M H v d) (s : ∀ a, M' a → M a) : RepL K M' H v d := RepL.mv (fun a n _ => ⟨Kp.of fun _ e => e, fun m => n (s a m)⟩) h
theorem RepK.sub {K : PySem.W.Frag} {M M' : AS} {H : Hp} {v : List (Key × V)} {d : List (Key × D)} (h : RepK K M H v d) (s : ∀ a, M' a → M a) : RepK K M' H v d := RepK.mv (fun a n _ => ⟨Kp.of fun _ e => e, fun m => n (s a m)⟩) h
theorem Rep.fr {K : PySem.W.Frag} {M W : AS} {H H' : Hp} {v : V} {d : D} (h : Rep K M H v d) (f : Fr W H H') (s : ∀ a, W a → M a) : Rep K M H' v d := Rep.mv (f.mv s) h
theorem RepL.fr {K : PySem.W.Frag} {M W : AS} {H H' : Hp} {v : List V} {d : List D} (h : RepL K M H v d) (f : Fr W H H') (s : ∀ a, W a → M a) : RepL K M H' v d := RepL.mv (f.mv s) h
/-! ### judgements -/
section
variable (K : PySem.W.Frag)
def WE (b : Bool) (te : TE) (δ : Sl) (Φ : D → Prop) : Prop := ∀ (A : Act) (M : AS) (H : Hp) (σ : L2.St), Sat K A M H σ δ → ∀ Q : VK, (∀ v H' d, Fr A.W H H' → Rep K (Y A M b) H' v d → Φ d → Q v H') → te σ H Q
def WT (tt : TT) (δ : Sl) (Φ : Bool → Prop) : Prop := ∀ (A : Act) (M : AS) (H : Hp) (σ : L2.St), Sat K A M H σ δ → ∀ Q : Bool → Hp → Prop, (∀ c H', Fr A.W H H' → Φ c → Q c H') → tt σ H Q
inductive RepAs (M W : AS) (H : Hp) : List V → List AV → Prop
  | nil : RepAs M W H [] []
  | dat {v : V} {d : D} {vs : List V} {as : List AV} : Rep K M H v d → RepAs M W H vs as → RepAs M W H (v :: vs) (.dat d :: as)
  | well {a : Addr} {vs : List V} {as : List AV} : W a → RepAs M W H vs as → RepAs M W H (.ref a :: vs) (.well :: as)
def WA (b : Bool) (ta : TA) (δ : Sl) (Φ : List AV → Prop) : Prop := ∀ (A : Act) (M : AS) (H : Hp) (σ : L2.St), Sat K A M H σ δ → ∀ Q : List V → Hp → Prop, (∀ vs H' as, Fr A.W H H' → RepAs K (Y A M b) A.W H' vs as → Φ as → Q vs H') → ta σ H Q
structure OC where
  nx : Sl → Prop
  rt : D → Prop
  bk : Sl → Prop := fun _ => False
  ct : Sl → Prop := fun _ => False
/-- from a state to a later one: what no slot owns is kept, what is owned anew is younger -/
def Ext (M : AS) (H : Hp) (M' : AS) (H' : Hp) : Prop := (∀ a o, ¬ M a → H a = some o → H' a = some o) ∧ ∀ a, M' a → M a ∨ H a = none
def WS (ts : TS) (δ : Sl) (o : OC) : Prop := ∀ (A : Act) (M : AS) (H : Hp) (σ : L2.St), Sat K A M H σ δ → ∀ De : Ends,
  (∀ M' H' σ' δ', Ext M H M' H' → Sat K A M' H' σ' δ' → o.nx δ' → De.nx σ' H') → (∀ M' H' σ' δ', Ext M H M' H' → Sat K A M' H' σ' δ' → o.bk δ' → De.bk σ' H') →
  (∀ M' H' σ' δ', Ext M H M' H' → Sat K A M' H' σ' δ' → o.ct δ' → De.ct σ' H') → (∀ M' H' σ' δ' v d, Sat K A M' H' σ' δ' → Rep K A.M0 H' v d → o.rt d → De.rt v H') → ts De σ H
def WG (g : TG) (d : D) (δ : Sl) (Φ : Sl → Prop) : Prop := ∀ (A : Act) (M : AS) (H : Hp) (σ : L2.St) (v : V), Sat K A M H σ δ → Rep K M H v d → ∀ Q : L2.St → Hp → Prop,
  (∀ σ' H' δ', Ext M H M H' → Sat K A M H' σ' δ' → Φ δ' → Q σ' H') → g v σ H Q
/-- a walk by its data -/
def DW (J : It) (M : AS) (H : Hp) (xs : List D) : Prop := ∃ (n : Nat) (G : Hp → Prop) (Yy : Nat → Hp → V → Hp → Prop), Walk J n G Yy ∧ n = xs.length ∧ (∀ M2 H2, Mv M H M2 H2 → G H2) ∧
  ∀ i H2 v H3 M2, i < n → Mv M H M2 H2 → (∀ a, M2 a → H2 a ≠ none) → Yy i H2 v H3 → (∀ a o, H2 a = some o → H3 a = some o) ∧ ∃ d, xs[i]? = some d ∧ Rep K M2 H3 v d
def WI (b : Bool) (wi : TI) (δ : Sl) (Φ : List D → Prop) : Prop := ∀ (A : Act) (M : AS) (H : Hp) (σ : L2.St), Sat K A M H σ δ → ∀ R : It → Hp → Prop, (∀ J H' xs, Fr A.W H H' → DW K J (Y A M b) H' xs → Φ xs → R J H') → wi σ H R
/-- what an operation on values does, by data: M: where its values may not stand -/
def St0 (M W : AS) (H : Hp) : Prop := (∀ a, W a → M a) ∧ (∀ a, M a → H a ≠ none) ∧ ∀ a, W a → WellAt H a
def OpS (r : R2) (x y : D) (Φ : D → Prop) : Prop := ∀ (M W : AS) (H : Hp) (vx vy : V), St0 M W H → Rep K M H vx x → Rep K M H vy y → ∀ Q : VK, (∀ v H' d, Fr W H H' → Rep K M H' v d → Φ d → Q v H') → r vx vy H Q
def UnS (r : V → Hp → VK → Prop) (x : D) (Φ : D → Prop) : Prop := ∀ (M W : AS) (H : Hp) (vx : V), St0 M W H → Rep K M H vx x → ∀ Q : VK, (∀ v H' d, Fr W H H' → Rep K M H' v d → Φ d → Q v H') → r vx H Q
def CbS (r : List V → Hp → VK → Prop) (as : List AV) (Φ : D → Prop) : Prop := ∀ (M W : AS) (H : Hp) (vs : List V), St0 M W H → RepAs K M W H vs as → ∀ Q : VK, (∀ v H' d, Fr W H H' → Rep K M H' v d → Φ d → Q v H') → r vs H Q
/-- a def's promise, by data -/
def spA (S : List AV → (D → Prop) → Prop) : Sp := fun vs H Q _ => ∃ (as : List AV) (M W : AS) (Φ : D → Prop), St0 M W H ∧ RepAs K M W H vs as ∧ S as Φ ∧ ∀ v H' d, Fr W H H' → Rep K M H' v d → Φ d → Q v H'
end

section
variable {K : PySem.W.Frag} {b : Bool} {δ : Sl} {Φ Ψ : D → Prop} {ta tb tc te : TE} {t u : TT} {A : Act} {M M' M2 : AS} {H H' H2 : Hp} {σ : L2.St}
theorem Sat.st0 (S : Sat K A M H σ δ) : St0 (Y A M b) A.W H := ⟨S.wy, fun a h => S.trk a (S.yt a h), S.wel⟩
theorem Ext.refl : Ext M H M H := ⟨fun _ _ _ h => h, fun _ h => .inl h⟩
theorem Ext.trans {H1 : Hp} {M1 : AS} (a : Ext M H M1 H1) (c : Ext M1 H1 M2 H2) : Ext M H M2 H2 := ⟨fun x o n h => c.1 x o (fun m => (a.2 x m).elim n fun q => by rw [h] at q; cases q) (a.1 x o n h), fun x m => (c.2 x m).elim (a.2 x) fun q => by
  by_cases n : M x
  · exact .inl n
  · refine .inr ?_
    cases e : H x with
    | none => rfl
    | some o => rw [a.1 x o n e] at q; cases q⟩
theorem Ext.mv (e : Ext M H M' H') : Mv M H M' H' := fun a n h => ⟨Kp.of fun o q => e.1 a o n q, fun m => (e.2 a m).elim n h⟩
theorem Fr.ext {W : AS} (f : Fr W H H') (hw : ∀ a, W a → M a) : Ext M H M H' := ⟨fun a o n h => f.kp a o (fun w => n (hw a w)) h, fun _ m => .inl m⟩
theorem Sat.ext (S : Sat K A M H σ δ) (f : Fr A.W H H') : Ext M H M H' := f.ext fun a w => S.m0 a (S.w0 a w)
theorem Mv.refl : Mv M H M H := fun _ n _ => ⟨Kp.of fun _ e => e, n⟩
theorem RepAs.fr {W : AS} (f : Fr W H H') (s : ∀ a, W a → M a) : ∀ {vs : List V} {as : List AV}, RepAs K M W H vs as → RepAs K M W H' vs as
  | _, _, .nil => .nil
  | _, _, .dat h r => .dat (h.fr f s) (RepAs.fr f s r)
  | _, _, .well w r => .well w (RepAs.fr f s r)
theorem WE.imp (h : WE K b te δ Φ) (i : ∀ d, Φ d → Ψ d) : WE K b te δ Ψ := fun A M H σ S Q q => h A M H σ S Q fun v H' d f r p => q v H' d f r (i d p)
theorem WT.imp {Φ Ψ : Bool → Prop} (h : WT K t δ Φ) (i : ∀ d, Φ d → Ψ d) : WT K t δ Ψ := fun A M H σ S Q q => h A M H σ S Q fun v H' f p => q v H' f (i v p)
theorem RepAs.length {W : AS} : ∀ {vs : List V} {as : List AV}, RepAs K M W H vs as → vs.length = as.length
  | _, _, .nil => rfl
  | _, _, .dat _ r => congrArg (· + 1) (RepAs.length r)
  | _, _, .well _ r => congrArg (· + 1) (RepAs.length r)
/-! ### expressions -/
theorem we_var {i : Nat} {d : D} (e : δ[i]? = some (some (.dat d))) (h : Φ d) : WE K b (tVar i) δ Φ := fun A M H σ S Q q => by
  obtain ⟨v, h1, h2⟩ := S.slot i _ e
  exact ⟨v, h1, q v H d Fr.refl (Rep.sub h2 S.yt) h⟩
theorem we_varO {i : Nat} {xs : List D} (e : δ[i]? = some (some (.own xs))) (h : Φ (.lst xs)) : WE K false (tVar i) δ Φ := fun A M H σ S Q q => by
  obtain ⟨v, h1, a, vs, rfl, m, g, ha, r⟩ := S.slot i _ e
  exact ⟨_, h1, q _ H _ Fr.refl (.lst ha (fun z => S.g0 a z g) (r.sub S.m0)) h⟩
theorem we_varD {i : Nat} {xs : List (Key × D)} (e : δ[i]? = some (some (.ownD xs))) (h : Φ (.dic xs)) : WE K false (tVar i) δ Φ := fun A M H σ S Q q => by
  obtain ⟨v, h1, a, vs, rfl, m, g, ha, r⟩ := S.slot i _ e
  exact ⟨_, h1, q _ H _ Fr.refl (.dic (.inl ha) (fun z => S.g0 a z g) (r.sub S.m0)) h⟩
theorem we_int {i : Int} (h : Φ (.int i)) : WE K b (tC (.int i)) δ Φ := fun A M H σ S Q q => q _ H _ Fr.refl (.int i) h
theorem we_str {s : Str} (h : Φ (.str s)) : WE K b (tC (.str s)) δ Φ := fun A M H σ S Q q => q _ H _ Fr.refl (.str s) h
theorem we_bl {c : Bool} (h : Φ (.bl c)) : WE K b (tC (.bl c)) δ Φ := fun A M H σ S Q q => q _ H _ Fr.refl (.bl c) h
theorem we_non (h : Φ .non) : WE K b (tC .non) δ Φ := fun A M H σ S Q q => q _ H _ Fr.refl .non h
theorem we_ty {n : String} (h : Φ (.clv (.ty n))) : WE K b (tC (.ty n)) δ Φ := fun A M H σ S Q q => q _ H _ Fr.refl (.clv _) h
theorem we_cref {a : Addr} (h : Φ (.clv (.ref a))) : WE K b (tC (.ref a)) δ Φ := fun A M H σ S Q q => q _ H _ Fr.refl (.clv _) h
/-- a value without a place of its own -/
def Flat : D → Prop
  | .non => True
  | .bl _ => True
  | .int _ => True
  | .str _ => True
  | _ => False
theorem Rep.flat {M M' : AS} {H H' : Hp} {v : V} {d : D} (h : Rep K M H v d) (f : Flat d) : Rep K M' H' v d := by
  cases h with
  | non => exact .non
  | bl c => exact .bl c
  | int i => exact .int i
  | str s => exact .str s
  | _ => exact f.elim
theorem we_up (h : WE K false te δ (fun d => Flat d ∧ Φ d)) : WE K b te δ Φ := fun A M H σ S Q q => h A M H σ S Q fun v H' d f r p => q v H' d f (r.flat p.1) p.2
theorem we_op {r : R2} (h : WE K b ta δ fun x => WE K b tb δ fun y => OpS K r x y Φ) : WE K b (tOp r ta tb) δ Φ := fun A M H σ S Q q =>
  h A M H σ S _ fun vx H1 x f1 r1 h2 => h2 A M H1 σ (S.step f1) _ fun vy H2 y f2 r2 h3 =>
    h3 (Y A M b) A.W H2 vx vy ((S.step f1).step f2).st0 (r1.fr f2 S.wy) r2 Q fun v H' d f r p => q v H' d ((f1.trans f2).trans f) r p
theorem we_un {r : V → Hp → VK → Prop} (h : WE K b ta δ fun x => UnS K r x Φ) : WE K b (tUn r ta) δ Φ := fun A M H σ S Q q =>
  h A M H σ S _ fun vx H1 x f1 r1 h3 => h3 (Y A M b) A.W H1 vx (S.step f1).st0 r1 Q fun v H' d f r p => q v H' d (f1.trans f) r p
theorem we_cb {r : List V → Hp → VK → Prop} {ts : TA} (h : WA K b ts δ fun as => CbS K r as Φ) : WE K b (tCB r ts) δ Φ := fun A M H σ S Q q =>
  h A M H σ S _ fun vs H1 as f1 r1 h3 => h3 (Y A M b) A.W H1 vs (S.step f1).st0 r1 Q fun v H' d f r p => q v H' d (f1.trans f) r p
theorem we_call {S0 : List AV → (D → Prop) → Prop} {E : XK} {ts : TA} (h : WA K b ts δ fun as => S0 as Φ) : WE K b (tCall (spA K S0) [] E ts) δ Φ := fun A M H σ S Q q =>
  h A M H σ S _ fun vs H1 as f1 r1 h3 => by
    rw [List.append_nil]
    exact ⟨as, Y A M b, A.W, Φ, (S.step f1).st0, r1, h3, fun v H' d f r p => q v H' d (f1.trans f) r p⟩
theorem we_if (h : WT K t δ fun c => (c = true → WE K b ta δ Φ) ∧ (c = false → WE K b tb δ Φ)) : WE K b (tIf t ta tb) δ Φ := fun A M H σ S Q q =>
  h A M H σ S _ fun c H1 f1 h3 => by
    cases c with
    | true =>
      show ta σ H1 Q
      exact h3.1 rfl A M H1 σ (S.step f1) Q fun v H' d f r p => q v H' d (f1.trans f) r p
    | false =>
      show tb σ H1 Q
      exact h3.2 rfl A M H1 σ (S.step f1) Q fun v H' d f r p => q v H' d (f1.trans f) r p
theorem we_and (h : WE K false ta δ fun x => ∃ c, x = .bl c ∧ (c = true → WE K b tb δ Φ) ∧ (c = false → Φ (.bl false))) : WE K b (tAndV ta tb) δ Φ := fun A M H σ S Q q =>
  h A M H σ S _ fun vx H1 x f1 r1 ⟨c, e, h1, h0⟩ => by
    subst e
    cases r1
    refine ⟨c, rfl, ?_⟩
    cases c with
    | true =>
      show tb σ H1 Q
      exact h1 rfl A M H1 σ (S.step f1) Q fun v H' d f r p => q v H' d (f1.trans f) r p
    | false =>
      show Q (.bl false) H1
      exact q _ H1 _ f1 (.bl false) (h0 rfl)
theorem we_or (h : WE K false ta δ fun x => ∃ c, x = .bl c ∧ (c = true → Φ (.bl true)) ∧ (c = false → WE K b tb δ Φ)) : WE K b (tOrV ta tb) δ Φ := fun A M H σ S Q q =>
  h A M H σ S _ fun vx H1 x f1 r1 ⟨c, e, h1, h0⟩ => by
    subst e
    cases r1
    refine ⟨c, rfl, ?_⟩
    cases c with
    | true =>
      show Q (.bl true) H1
      exact q _ H1 _ f1 (.bl true) (h1 rfl)
    | false =>
      show tb σ H1 Q
      exact h0 rfl A M H1 σ (S.step f1) Q fun v H' d f r p => q v H' d (f1.trans f) r p
theorem we_not (h : WE K false ta δ fun x => ∃ c, x = .bl c ∧ Φ (.bl (!c))) : WE K b (tNotV ta) δ Φ := fun A M H σ S Q q =>
  h A M H σ S _ fun vx H1 x f1 r1 ⟨c, e, h1⟩ => by
    subst e
    cases r1
    exact ⟨c, rfl, q _ H1 _ f1 (.bl (!c)) h1⟩
/-! ### arguments, displays -/
theorem wa_nil {Φ : List AV → Prop} (h : Φ []) : WA K b tNil δ Φ := fun A M H σ S Q q => q [] H [] Fr.refl .nil h
theorem wa_cons {Φ : List AV → Prop} {tr : TA} (h : WE K b ta δ fun x => WA K b tr δ fun as => Φ (.dat x :: as)) : WA K b (tCons ta tr) δ Φ := fun A M H σ S Q q =>
  h A M H σ S _ fun vx H1 x f1 r1 h2 => h2 A M H1 σ (S.step f1) _ fun vs H2 as f2 r2 h3 => q _ H2 _ (f1.trans f2) (.dat (r1.fr f2 S.wy) r2) h3
theorem wa_well {Φ : List AV → Prop} {tr : TA} {i : Nat} (e : δ[i]? = some (some .well)) (h : WA K b tr δ fun as => Φ (.well :: as)) : WA K b (tCons (tVar i) tr) δ Φ := fun A M H σ S Q q => by
  obtain ⟨v, h1, a, rfl, hw⟩ := S.slot i _ e
  exact ⟨_, h1, h A M H σ S _ fun vs H2 as f2 r2 h3 => q _ H2 _ f2 (.well hw r2) h3⟩
/-- the data of arguments that are no wells -/
def datas : List AV → Option (List D)
  | [] => some []
  | .dat d :: r => (datas r).map (d :: ·)
  | _ => none
theorem datas_rep {W : AS} : ∀ {vs : List V} {as : List AV} {ds : List D}, RepAs K M W H vs as → datas as = some ds → RepL K M H vs ds
  | _, _, _, .nil, e => by cases e; exact .nil
  | _, _, _, .dat (d := d) (as := as) h r, e => by
    unfold datas at e
    cases q : datas as with
    | none => rw [q] at e; cases e
    | some l =>
      rw [q] at e
      cases e
      exact .cons h (datas_rep r q)
  | _, _, _, .well w r, e => by cases e
theorem we_tup {ts : TA} (h : WA K b ts δ fun as => as.length ≤ 100000 ∧ ∃ ds, datas as = some ds ∧ Φ (.tup ds)) : WE K b (tTup ts) δ Φ := fun A M H σ S Q q =>
  h A M H σ S _ fun vs H1 as f1 r1 ⟨hl, ds, e, p⟩ => by
    have rl := datas_rep r1 e
    have lenA : vs.length = as.length := r1.length
    refine ⟨by rw [lenA]; exact Nat.le_trans hl (by decide), fun p0 hp => q _ _ _ (f1.trans (Fr.new hp fun w => (S.step f1).trk p0 (S.m0 _ (S.w0 _ w)) hp)) (.tup upd_same (fun z => (S.step f1).trk p0 (S.yt _ z) hp) ?_) p⟩
    exact rl.fr (Fr.new (W := A.W) hp fun w => (S.step f1).trk p0 (S.m0 _ (S.w0 _ w)) hp) S.wy
theorem we_lst {ts : TA} (h : WA K b ts δ fun as => as.length ≤ 100000 ∧ ∃ ds, datas as = some ds ∧ Φ (.lst ds)) : WE K b (tLst ts) δ Φ := fun A M H σ S Q q =>
  h A M H σ S _ fun vs H1 as f1 r1 ⟨hl, ds, e, p⟩ => by
    have rl := datas_rep r1 e
    have lenA : vs.length = as.length := r1.length
    refine ⟨by rw [lenA]; exact Nat.le_trans hl (by decide), fun p0 hp => q _ _ _ (f1.trans (Fr.new hp fun w => (S.step f1).trk p0 (S.m0 _ (S.w0 _ w)) hp)) (.lst upd_same (fun z => (S.step f1).trk p0 (S.yt _ z) hp) ?_) p⟩
    exact rl.fr (Fr.new (W := A.W) hp fun w => (S.step f1).trk p0 (S.m0 _ (S.w0 _ w)) hp) S.wy
theorem we_fld {f : Str} (h : WE K b ta δ fun x => ∃ C fs d, x = .ins C fs ∧ Cls K C ∧ NoAttr K C f ∧ fs.lookup f = some d ∧ Φ d) : WE K b (tFld K ta f) δ Φ := fun A M H σ S Q q =>
  h A M H σ S _ fun vx H1 x f1 r1 ⟨C, fs, d, e, hc, hn, hl, p⟩ => by
    subst e
    cases r1 with
    | ins ha n r =>
      obtain ⟨v, h1, h2⟩ := r.lookup hl
      exact ⟨_, _, _, _, _, rfl, ha, hc, hn, h1, q _ H1 _ f1 h2 p⟩
theorem we_meth {C : Addr} {m : Str} {S0 : List AV → (D → Prop) → Prop} {E : XK} {ts : TA} (h : WE K b ta δ fun x => ∃ fs, x = .ins C fs ∧ fs.lookup m = none ∧ WA K b ts δ fun as => S0 (.dat x :: as) Φ) : WE K b (tMeth C m (spA K S0) [] E ta ts) δ Φ := fun A M H σ S Q q =>
  h A M H σ S _ fun vx H1 x f1 r1 ⟨fs, e, hl, h2⟩ => by
    subst e
    cases r1 with
    | ins ha n r =>
      refine ⟨_, _, _, rfl, ha, RepF.lookup_none r hl, h2 A M H1 σ (S.step f1) _ fun vs H2 as f2 r2 h3 => ?_⟩
      rw [List.append_nil]
      exact ⟨_, Y A M b, A.W, Φ, ((S.step f1).step f2).st0, .dat (Rep.fr (.ins ha n r) f2 S.wy) r2, h3, fun v H' d f r p => q v H' d ((f1.trans f2).trans f) r p⟩
/-! ### tests -/
theorem wt_test {Φ : Bool → Prop} (h : WE K false te δ fun x => ∃ c, x = .bl c ∧ Φ c) : WT K (tTest te) δ Φ := fun A M H σ S Q q =>
  h A M H σ S _ fun vx H1 x f1 r1 ⟨c, e, p⟩ => by
    subst e
    cases r1
    exact ⟨c, rfl, q c H1 f1 p⟩
theorem wt_B {Φ : Bool → Prop} (h : WE K false te δ fun x => ∃ c, x = .bl c ∧ Φ c) : WT K (tB te) δ Φ := fun A M H σ S Q q =>
  h A M H σ S _ fun vx H1 x f1 r1 ⟨c, e, p⟩ => by
    subst e
    cases r1
    exact ⟨c, rfl, q c H1 f1 p⟩
theorem wt_and {Φ : Bool → Prop} (h : WT K t δ fun c => (c = true → WT K u δ Φ) ∧ (c = false → Φ false)) : WT K (tAnd t u) δ Φ := fun A M H σ S Q q =>
  h A M H σ S _ fun c H1 f1 h3 => by
    cases c with
    | true =>
      show u σ H1 Q
      exact h3.1 rfl A M H1 σ (S.step f1) Q fun v H' f p => q v H' (f1.trans f) p
    | false =>
      show Q false H1
      exact q _ H1 f1 (h3.2 rfl)
theorem wt_or {Φ : Bool → Prop} (h : WT K t δ fun c => (c = true → Φ true) ∧ (c = false → WT K u δ Φ)) : WT K (tOr t u) δ Φ := fun A M H σ S Q q =>
  h A M H σ S _ fun c H1 f1 h3 => by
    cases c with
    | true =>
      show Q true H1
      exact q _ H1 f1 (h3.1 rfl)
    | false =>
      show u σ H1 Q
      exact h3.2 rfl A M H1 σ (S.step f1) Q fun v H' f p => q v H' (f1.trans f) p
theorem wt_not {Φ : Bool → Prop} (h : WT K t δ fun c => Φ (!c)) : WT K (tNot t) δ Φ := fun A M H σ S Q q =>
  h A M H σ S _ fun c H1 f1 h3 => q _ H1 f1 h3
end
/-! ### slices, statements -/
section
variable {K : PySem.W.Frag} {b : Bool} {δ : Sl} {Φ Ψ : D → Prop} {ta tb tc te : TE} {t u : TT} {A : Act} {M M' M2 : AS} {H H' H2 : Hp} {σ : L2.St} {o : OC} {ts tu tw : TS}
def WO (to : TO) (δ : Sl) (Φ : Option Int → Prop) : Prop := ∀ (A : Act) (M : AS) (H : Hp) (σ : L2.St), Sat K A M H σ δ → ∀ Q : Option Int → Hp → Prop, (∀ i H', Fr A.W H H' → Φ i → Q i H') → to σ H Q
theorem wo_none {Φ : Option Int → Prop} (h : Φ none) : WO (K := K) tNoPart δ Φ := fun A M H σ S Q q => q _ H Fr.refl h
theorem wo_some {Φ : Option Int → Prop} (h : WE K false te δ fun x => ∃ i, x = .int i ∧ Φ (some i)) : WO (K := K) (tPart te) δ Φ := fun A M H σ S Q q =>
  h A M H σ S _ fun vx H1 x f1 r1 ⟨i, e, p⟩ => by
    subst e
    cases r1
    exact ⟨i, rfl, q _ H1 f1 p⟩
def SlS (K : PySem.W.Frag) (r : V → Option Int → Option Int → Hp → VK → Prop) (x : D) (lo hi : Option Int) (Φ : D → Prop) : Prop := ∀ (M W : AS) (H : Hp) (vx : V), St0 M W H → Rep K M H vx x → ∀ Q : VK, (∀ v H' d, Fr W H H' → Rep K M H' v d → Φ d → Q v H') → r vx lo hi H Q
theorem we_sl {r : V → Option Int → Option Int → Hp → VK → Prop} {tl th : TO} (h : WE K b ta δ fun x => WO (K := K) tl δ fun lo => WO (K := K) th δ fun hi => SlS K r x lo hi Φ) : WE K b (tSl r ta tl th) δ Φ := fun A M H σ S Q q =>
  h A M H σ S _ fun vx H1 x f1 r1 h2 => h2 A M H1 σ (S.step f1) _ fun lo H2 f2 h3 => h3 A M H2 σ ((S.step f1).step f2) _ fun hi H3 f3 h4 =>
    h4 (Y A M b) A.W H3 vx (((S.step f1).step f2).step f3).st0 ((r1.fr f2 S.wy).fr f3 S.wy) Q fun v H' d f r p => q v H' d (((f1.trans f2).trans f3).trans f) r p

theorem Sat.own_ne (S : Sat K A M H σ δ) {i : Nat} {av : AV} (e : δ[i]? = some (some av)) : ∃ v, σ[i]? = some (some v) := let ⟨v, h, _⟩ := S.slot i av e; ⟨v, h⟩
/-- a slot gets data -/
theorem Sat.put (S : Sat K A M H σ δ) {i : Nat} {v : V} {d : D} (r : Rep K M H v d) : Sat K A M H (σ.set i (some v)) (δ.set i (some (.dat d))) where
  slot := fun j av e => by
    by_cases hj : j = i
    · subst hj
      have hl : j < δ.length := by
        have q := (List.getElem?_eq_some_iff.mp e).1
        rw [List.length_set] at q
        exact q
      rw [List.getElem?_set_self hl] at e
      cases e
      exact ⟨v, by rw [List.getElem?_set_self (by rw [S.len]; exact hl)], r⟩
    · rw [List.getElem?_set_ne (Ne.symm hj)] at e ⊢
      exact S.slot j av e
  dis := fun j k av bv a hne ej ek oj ok sj sk => by
    have key : ∀ (n : Nat) (cv : AV), (δ.set i (some (.dat d)))[n]? = some (some cv) → isOwn cv = true → n ≠ i := fun n cv en on z => by
      subst z
      have hl : n < δ.length := by
        have q := (List.getElem?_eq_some_iff.mp en).1
        rw [List.length_set] at q
        exact q
      rw [List.getElem?_set_self hl] at en
      cases en
      cases on
    have hj := key j av ej oj
    have hk := key k bv ek ok
    rw [List.getElem?_set_ne (Ne.symm hj)] at ej sj
    rw [List.getElem?_set_ne (Ne.symm hk)] at ek sk
    exact S.dis j k av bv a hne ej ek oj ok sj sk
  len := by rw [List.length_set, List.length_set, S.len]
  trk := S.trk
  m0 := S.m0
  w0 := S.w0
  g0 := S.g0
  wel := S.wel
  welG := S.welG
  fr := S.fr

theorem ws_seq (h : WS K ts δ { o with nx := fun δ' => WS K tu δ' o }) : WS K (tSeq ts tu) δ o := fun A M H σ S De n b c r =>
  h A M H σ S { De with nx := tu De } (fun M' H' σ' δ' e S' h' => h' A M' H' σ' S' De (fun M2 H2 σ2 δ2 e2 S2 p => n M2 H2 σ2 δ2 (e.trans e2) S2 p) (fun M2 H2 σ2 δ2 e2 S2 p => b M2 H2 σ2 δ2 (e.trans e2) S2 p) (fun M2 H2 σ2 δ2 e2 S2 p => c M2 H2 σ2 δ2 (e.trans e2) S2 p) r) b c r
theorem ws_next (h : o.nx δ) : WS K tNext δ o := fun A M H σ S De n b c r => n M H σ δ Ext.refl S h
theorem ws_break (h : o.bk δ) : WS K tBreak δ o := fun A M H σ S De n b c r => b M H σ δ Ext.refl S h
theorem ws_cont (h : o.ct δ) : WS K tCont δ o := fun A M H σ S De n b c r => c M H σ δ Ext.refl S h
theorem ws_asg {i : Nat} (h : WE K true te δ fun d => o.nx (δ.set i (some (.dat d)))) : WS K (tAsg te (gName i)) δ o := fun A M H σ S De n b c r =>
  h A M H σ S _ fun v H1 d f1 r1 p => n M H1 _ _ (S.ext f1) ((S.step f1).put r1) p
theorem ws_if (h : WT K t δ fun c => (c = true → WS K ts δ o) ∧ (c = false → WS K tu δ o)) : WS K (tIfS t ts tu) δ o := fun A M H σ S De n b c r =>
  h A M H σ S _ fun k H1 f1 h1 => by
    have e := S.ext f1
    have S1 := S.step f1
    cases k with
    | true =>
      show ts De σ H1
      exact h1.1 rfl A M H1 σ S1 De (fun M2 H2 σ2 δ2 e2 S2 p => n M2 H2 σ2 δ2 (e.trans e2) S2 p) (fun M2 H2 σ2 δ2 e2 S2 p => b M2 H2 σ2 δ2 (e.trans e2) S2 p) (fun M2 H2 σ2 δ2 e2 S2 p => c M2 H2 σ2 δ2 (e.trans e2) S2 p) r
    | false =>
      show tu De σ H1
      exact h1.2 rfl A M H1 σ S1 De (fun M2 H2 σ2 δ2 e2 S2 p => n M2 H2 σ2 δ2 (e.trans e2) S2 p) (fun M2 H2 σ2 δ2 e2 S2 p => b M2 H2 σ2 δ2 (e.trans e2) S2 p) (fun M2 H2 σ2 δ2 e2 S2 p => c M2 H2 σ2 δ2 (e.trans e2) S2 p) r
theorem ws_ret (h : WE K false te δ o.rt) : WS K (tRet te) δ o := fun A M H σ S De n b c r =>
  h A M H σ S _ fun v H1 d f1 r1 p => r M H1 σ δ v d (S.step f1) r1 p
theorem ws_retN (h : o.rt .non) : WS K tRetN δ o := fun A M H σ S De n b c r => r M H σ δ .non .non S .non h
theorem ws_drop (h : WE K false te δ fun _ => o.nx δ) : WS K (tDrop te) δ o := fun A M H σ S De n b c r =>
  h A M H σ S _ fun v H1 d f1 r1 p => n M H1 σ δ (S.ext f1) (S.step f1) p
theorem ws_imp {o' : OC} (h : WS K ts δ o) (h1 : ∀ δ', o.nx δ' → o'.nx δ') (h2 : ∀ d, o.rt d → o'.rt d) (h3 : ∀ δ', o.bk δ' → o'.bk δ') (h4 : ∀ δ', o.ct δ' → o'.ct δ') : WS K ts δ o' := fun A M H σ S De n b c r =>
  h A M H σ S De (fun M2 H2 σ2 δ2 e2 S2 p => n M2 H2 σ2 δ2 e2 S2 (h1 _ p)) (fun M2 H2 σ2 δ2 e2 S2 p => b M2 H2 σ2 δ2 e2 S2 (h3 _ p)) (fun M2 H2 σ2 δ2 e2 S2 p => c M2 H2 σ2 δ2 e2 S2 (h4 _ p)) (fun M2 H2 σ2 δ2 v d S2 p q => r M2 H2 σ2 δ2 v d S2 p (h2 _ q))
/-- slots may be forgotten -/
def Le (δ' δ : Sl) : Prop := δ'.length = δ.length ∧ ∀ (i : Nat) (av : AV), δ'[i]? = some (some av) → δ[i]? = some (some av)
theorem Sat.weak {δ' : Sl} (S : Sat K A M H σ δ) (l : Le δ' δ) : Sat K A M H σ δ' where
  slot := fun i av e => S.slot i av (l.2 i av e)
  dis := fun i j av bv a hne ei ej => S.dis i j av bv a hne (l.2 i av ei) (l.2 j bv ej)
  len := by rw [S.len, l.1]
  trk := S.trk
  m0 := S.m0
  w0 := S.w0
  g0 := S.g0
  wel := S.wel
  welG := S.welG
  fr := S.fr
theorem ws_weak {δ' : Sl} (l : Le δ' δ) (h : WS K ts δ' o) : WS K ts δ o := fun A M H σ S De n b c r => h A M H σ (S.weak l) De n b c r
/-- targets -/
theorem wg_name {i : Nat} {d : D} {Φ : Sl → Prop} (h : Φ (δ.set i (some (.dat d)))) : WG K (gName i) d δ Φ := fun A M H σ v S r Q q => q _ H _ Ext.refl (S.put r) h
def WGs (K : PySem.W.Frag) (g : TGs) (ds : List D) (δ : Sl) (Φ : Sl → Prop) : Prop := ∀ (A : Act) (M : AS) (H : Hp) (σ : L2.St) (vs : List V), Sat K A M H σ δ → RepL K M H vs ds → ∀ Q : L2.St → Hp → Prop,
  (∀ σ' H' δ', Ext M H M H' → Sat K A M H' σ' δ' → Φ δ' → Q σ' H') → g vs σ H Q
theorem wgs_nil {Φ : Sl → Prop} (h : Φ δ) : WGs K gNil [] δ Φ := fun A M H σ vs S r Q q => by
  cases r
  exact ⟨rfl, q σ H δ Ext.refl S h⟩
theorem wgs_cons {g : TG} {gs : TGs} {d : D} {ds : List D} {Φ : Sl → Prop} (h : WG K g d δ fun δ' => WGs K gs ds δ' Φ) : WGs K (gCons g gs) (d :: ds) δ Φ := fun A M H σ vs S r Q q => by
  cases r with
  | cons r1 r2 =>
    exact ⟨_, _, rfl, h A M H σ _ S r1 _ fun σ' H' δ' e S' h' => h' A M H' σ' _ S' (RepL.mv e.mv r2) Q fun σ2 H2 δ2 e2 S2 p => q σ2 H2 δ2 (e.trans e2) S2 p⟩
theorem wg_tup {n : Nat} {gs : TGs} {ds : List D} {Φ : Sl → Prop} (hn : ds.length = n) (h : WGs K gs ds δ Φ) : WG K (gTup K n gs) (.tup ds) δ Φ := fun A M H σ v S r Q q => by
  cases r with
  | tup ha nm rl => exact ⟨_, _, rfl, .inl (.inl ha), by rw [rl.length, hn], h A M H σ _ S rl Q q⟩
theorem ws_asgT {g : TG} (h : WE K true te δ fun d => WG K g d δ o.nx) : WS K (tAsg te g) δ o := fun A M H σ S De n b c r =>
  h A M H σ S _ fun v H1 d f1 r1 p => p A M H1 σ v (S.step f1) r1 _ fun σ2 H2 δ2 e2 S2 z => n M H2 σ2 δ2 ((S.ext f1).trans e2) S2 z
/-! ### loops -/
theorem Sat.mvY (S : Sat K A M H σ δ) (e : Ext M H M2 H2) : Mv (Y A M true) H M2 H2 := e.mv
theorem ws_for {wi : TI} {g : TG} (h : WI K true wi δ fun xs => ∃ I : Nat → Sl → Prop, I 0 δ ∧ (∀ i d δ', xs[i]? = some d → I i δ' → WG K g d δ' fun δ2 => WS K ts δ2 { o with nx := I (i + 1), ct := I (i + 1), bk := o.nx }) ∧ ∀ δ', I xs.length δ' → o.nx δ') :
    WS K (tFor wi g ts) δ o := fun A M H σ S De n b c r =>
  h A M H σ S _ fun J H1 xs f1 dw ⟨I, h0, hs, hd⟩ => by
    obtain ⟨m, G, Yy, w, em, hG, hY⟩ := dw
    have S1 := S.step f1
    refine for_it w (fun i σ' H' => ∃ M' δ', Ext M H1 M' H' ∧ Sat K A M' H' σ' δ' ∧ I i δ') ⟨M, δ, Ext.refl, S1, h0⟩ (fun i σ' H' _ ⟨M', δ', e, S', p⟩ => hG M' H' e.mv) (fun i x σ' H' H2 hi ⟨M', δ', e, S', p⟩ y => ?_) (fun σ' H' ⟨M', δ', e, S', p⟩ => n M' H' σ' δ' ((S.ext f1).trans e) S' (hd δ' (em ▸ p)))
    obtain ⟨k, d, ed, rd⟩ := hY i H' x H2 M' hi e.mv S'.trk y
    have f2 : Fr A.W H' H2 := ⟨fun a oo _ q => k a oo q, fun a _ q => by
      obtain ⟨x1, y1, z1, q1, q2⟩ := q
      exact ⟨x1, y1, z1, k a _ q1, q2⟩⟩
    refine hs i d δ' ed p A M' H2 σ' x (S'.step f2) rd _ fun σ3 H3 δ3 e3 S3 hw => ?_
    have e03 : Ext M H1 M' H3 := (e.trans (S'.ext f2)).trans e3
    exact hw A M' H3 σ3 S3 _ (fun M4 H4 σ4 δ4 e4 S4 p4 => ⟨M4, δ4, e03.trans e4, S4, p4⟩) (fun M4 H4 σ4 δ4 e4 S4 p4 => n M4 H4 σ4 δ4 ((S.ext f1).trans (e03.trans e4)) S4 p4)
      (fun M4 H4 σ4 δ4 e4 S4 p4 => ⟨M4, δ4, e03.trans e4, S4, p4⟩) r
theorem ws_while (I : Nat → Sl → Prop) (m0 : Nat) (h0 : I m0 δ)
    (hs : ∀ m δ', I m δ' → WT K t δ' fun c => (c = true → WS K ts δ' { o with nx := fun δ2 => ∃ m', m' < m ∧ I m' δ2, ct := fun δ2 => ∃ m', m' < m ∧ I m' δ2, bk := o.nx }) ∧ (c = false → o.nx δ')) : WS K (tWhile t ts) δ o := fun A M H σ S De n b c r => by
  refine ⟨fun m σ' H' => ∃ M' δ', Ext M H M' H' ∧ Sat K A M' H' σ' δ' ∧ I m δ', ⟨m0, M, δ, Ext.refl, S, h0⟩, fun m σ' H' ⟨M', δ', e, S', p⟩ => ?_⟩
  refine hs m δ' p A M' H' σ' S' _ fun k H1 f1 h1 => ?_
  have e1 : Ext M H M' H1 := e.trans (S'.ext f1)
  cases k with
  | true =>
    show ∃ N : L2.St → Hp → Prop, (∀ σ2 H2, N σ2 H2 → ∃ m', m' < m ∧ ∃ M' δ', Ext M H M' H2 ∧ Sat K A M' H2 σ2 δ' ∧ I m' δ') ∧ ts { De with nx := N, ct := N, bk := De.nx } σ' H1
    refine ⟨fun σ2 H2 => ∃ m', m' < m ∧ ∃ M' δ', Ext M H M' H2 ∧ Sat K A M' H2 σ2 δ' ∧ I m' δ', fun _ _ z => z, ?_⟩
    exact h1.1 rfl A M' H1 σ' (S'.step f1) _ (fun M4 H4 σ4 δ4 e4 S4 ⟨m', lt, p4⟩ => ⟨m', lt, M4, δ4, e1.trans e4, S4, p4⟩) (fun M4 H4 σ4 δ4 e4 S4 p4 => n M4 H4 σ4 δ4 (e1.trans e4) S4 p4)
      (fun M4 H4 σ4 δ4 e4 S4 ⟨m', lt, p4⟩ => ⟨m', lt, M4, δ4, e1.trans e4, S4, p4⟩) r
  | false =>
    show De.nx σ' H1
    exact n M' H1 σ' δ' e1 (S'.step f1) (h1.2 rfl)
/-- what is walked -/
theorem wi_list {tl : TE} {Φ : List D → Prop} (h : WE K b tl δ fun x => ∃ xs, x = .lst xs ∧ Φ xs) : WI K b (iList K tl) δ Φ := fun A M H σ S R q =>
  h A M H σ S _ fun v H1 x f1 r1 ⟨xs, e, p⟩ => by
    subst e
    cases r1 with
    | lst ha n rl =>
      refine ⟨_, rfl, ⟨_, .inl (.inl ha)⟩, q _ H1 xs f1 ⟨_, _, _, walk_list (xs := _), rl.length, fun M2 H2 mv => .inl ((mv _ n (some_ne ha)).1.rdl (.inl ha)), fun i H2 v H3 M2 hi mv _ y => ?_⟩ p⟩
      obtain ⟨rfl, yv⟩ := y
      obtain ⟨d, e1, e2⟩ := rl.getV yv
      exact ⟨fun _ _ z => z, d, e1, Rep.mv mv e2⟩
theorem wi_fl {tl : TE} {Φ : List D → Prop} (h : WE K b tl δ fun x => ∃ ns, x = .fl ns ∧ Φ (ns.map D.int)) : WI K b (iList K tl) δ Φ := fun A M H σ S R q =>
  h A M H σ S _ fun v H1 x f1 r1 ⟨ns, e, p⟩ => by
    subst e
    cases r1 with
    | fl ha =>
      refine ⟨_, rfl, ⟨_, ha.sql⟩, q _ H1 _ f1 ⟨_, _, _, walk_list (xs := ns.map V.int), by simp, fun M2 H2 mv => ?_, fun i H2 v H3 M2 hi mv _ y => ?_⟩ p⟩
      · rcases ha with ⟨ha, n⟩ | ha
        · exact .inl ((mv _ n (rd_some ha)).1.rdl ha)
        · exact .inr ha
      · obtain ⟨rfl, yv⟩ := y
        obtain ⟨d, e1, e2⟩ := (RepL.ofInts (K := K) (M := M2) (H := H3) ns).getV yv
        exact ⟨fun _ _ z => z, d, e1, e2⟩
theorem wi_tup {tl : TE} {Φ : List D → Prop} (h : WE K b tl δ fun x => ∃ xs, x = .tup xs ∧ Φ xs) : WI K b (iTup K tl) δ Φ := fun A M H σ S R q =>
  h A M H σ S _ fun v H1 x f1 r1 ⟨xs, e, p⟩ => by
    subst e
    cases r1 with
    | tup ha n rl =>
      refine ⟨_, rfl, ⟨_, .inl (.inl ha)⟩, q _ H1 xs f1 ⟨_, _, _, walk_tup (xs := _), rl.length, fun M2 H2 mv => ?_, fun i H2 v H3 M2 hi mv _ y => ?_⟩ p⟩
      · rcases (mv _ n (some_ne ha)).1 _ ha with q | ⟨_, _, e, _⟩
        · exact .inl (.inl q)
        · cases e
      · obtain ⟨rfl, yv⟩ := y
        obtain ⟨d, e1, e2⟩ := rl.getV yv
        exact ⟨fun _ _ z => z, d, e1, Rep.mv mv e2⟩
/-- a range's ints -/
def rangeD (lo : Int) (n : Nat) : List D := (List.range n).map fun (i : Nat) => D.int (lo + (i : Int))
theorem rangeD_get {lo : Int} {n i : Nat} (h : i < n) : (rangeD lo n)[i]? = some (.int (lo + (i : Int))) := by
  unfold rangeD
  rw [List.getElem?_map, List.getElem?_range h]
  rfl
theorem rangeD_len {lo : Int} {n : Nat} : (rangeD lo n).length = n := by simp [rangeD]
theorem dw_range {lo : Int} {n : Nat} : DW K (Itr lo n) M H (rangeD lo n) :=
  ⟨n, _, _, walk_range, rangeD_len.symm, fun _ _ _ => trivial, fun i H2 v H3 M2 hi _ _ y => by
    obtain ⟨rfl, rfl⟩ := y
    exact ⟨fun _ _ z => z, _, rangeD_get hi, .int _⟩⟩
theorem wi_rng1 {tr : TA} {Φ : List D → Prop} (h : WA K false tr δ fun as => ∃ j : Int, as = [.dat (.int j)] ∧ (-1000000 ≤ j ∧ j < 1000000) ∧ Φ (rangeD 0 j.toNat)) : WI K b (iRng1 tr) δ Φ := fun A M H σ S R q =>
  h A M H σ S _ fun vs H1 as f1 r1 ⟨j, e, lt, p⟩ => by
    subst e
    cases r1 with
    | dat r2 r3 =>
      cases r3
      cases r2
      exact ⟨j, rfl, by omega, by omega, q _ H1 _ f1 dw_range p⟩
theorem wi_rng2 {tr : TA} {Φ : List D → Prop} (h : WA K false tr δ fun as => ∃ i j : Int, as = [.dat (.int i), .dat (.int j)] ∧ (-1000000 ≤ i ∧ i < 1000000 ∧ -1000000 ≤ j ∧ j < 1000000) ∧ Φ (rangeD i (j - i).toNat)) : WI K b (iRng2 tr) δ Φ := fun A M H σ S R q =>
  h A M H σ S _ fun vs H1 as f1 r1 ⟨i, j, e, lt, p⟩ => by
    subst e
    cases r1 with
    | dat r2 r3 =>
      cases r3 with
      | dat r4 r5 =>
        cases r5
        cases r2
        cases r4
        exact ⟨i, j, rfl, ⟨by omega, by omega, by omega, by omega⟩, q _ H1 _ f1 dw_range p⟩
end
end Z

/-! Zx: further rules of the hand layer's kind: enumerate over a tuple, order of tuples of texts, in a tuple of data, calls by keywords alone. -/
namespace Z
open PySem PySem.Spec PyProof.Rows L2
open AutoSeq1 (wpAny_loadPart')
/-! ### enumerate(tuple) -/
theorem meets_enumerate_newT (l : Addr) (items : Array Value) (n : Nat) (dct : Option Addr) (sl : Array (Option Value)) :
    Meets (Builtin.«enumerate.__new__» ⟨[.type "enumerate", .ref l], []⟩) (fun _ R s => s.heap.get? l = some { cls := .type "tuple", dict := dct, data := .seq items n, slots := sl } ∧
      R (.ok (.ret (.ref (s.heap.push { cls := .type "tuple_iterator", data := .fields #[.ref l, .int 0 0] }).objs.size)))
        { s with heap := (s.heap.push { cls := .type "tuple_iterator", data := .fields #[.ref l, .int 0 0] }).push { cls := .type "enumerate", data := .fields #[.none, .bool false, .ref s.heap.objs.size, rawInt 0, .none, .none] } }) :=
  .of_wp fun prog w A R s h => by
    obtain ⟨hp, g, d, tk, os⟩ := s; obtain ⟨hl, h⟩ := h
    have hsub := sub_enumerate
    have hL : Heap.IsTuple (Shared.heap ⟨hp, g, d, tk, os⟩) l items := ⟨_, hl, rfl, n, rfl⟩
    wp_walk using wpAny_loadPart' hl
    refine wpAny_stack_any fun st => wpAny_pure ?_
    split
    · rename_i c _ _ _ _ _
      cases (c == Value.type "enumerate")
      · wp_walk using wpAny_loadPart' hl, wpAny_pyIter_tuple hL
        exact ⟨_, rfl, h⟩
      · wp_walk using wpAny_loadPart' hl, wpAny_pyIter_tuple hL
        exact ⟨_, rfl, h⟩
    · wp_walk using wpAny_loadPart' hl, wpAny_pyIter_tuple hL
      exact ⟨_, rfl, h⟩
section
variable {prog : Program} {w : World} {A : Around} {E : Value → Shared → Prop} {s : Shared}
theorem call_enumerate_tuple {l : Addr} {items : Array Value} {Q : Value → Shared → Prop} (hL : s.heap.IsTuple l items)
    (h : ∀ h', IsEnum h' (s.heap.objs.size + 1) s.heap.objs.size 0 .none → h'.IsTupleIter s.heap.objs.size l 0 → h'.objs.size = s.heap.objs.size + 2 →
      (∀ b o, s.heap.get? b = some o → h'.get? b = some o) → Q (.ref (s.heap.objs.size + 1)) { s with heap := h' }) :
    wpAny (model prog w) A (call (.type "enumerate") [.ref l]) Q E s := by
  obtain ⟨⟨c, dct, dt, sl⟩, hl, hc, n, hd⟩ := hL
  replace hc : c = .type "tuple" := hc
  replace hd : dt = .seq items n := hd
  subst hc hd
  refine callType_new F.called_enumerate (by decide) (F.typeCall_enumerate_1 _) (F.newCall_enumerate_1 _) (fun obj => F.args_object_init_2 obj _) F.entry_enumerate_new
    (meets_enumerate_newT l items n dct sl) ⟨hl, ?_⟩
  have hz : (s.heap.push { cls := .type "tuple_iterator", data := .fields #[.ref l, .int 0 0] }).objs.size = s.heap.objs.size + 1 := Heap.size_push ..
  show _ ∧ _
  rw [hz]
  have he : IsEnum ((s.heap.push { cls := .type "tuple_iterator", data := .fields #[.ref l, .int 0 0] }).push
      { cls := .type "enumerate", data := .fields #[.none, .bool false, .ref s.heap.objs.size, rawInt 0, .none, .none] }) (s.heap.objs.size + 1) s.heap.objs.size 0 .none := by
    have := Heap.get?_push_size (s.heap.push { cls := .type "tuple_iterator", data := .fields #[.ref l, .int 0 0] })
      (o := { cls := .type "enumerate", data := .fields #[.none, .bool false, .ref s.heap.objs.size, rawInt 0, .none, .none] }) rfl
    rw [hz] at this; exact this
  refine ⟨⟨_, he, rfl⟩, h _ he ⟨_, Heap.get?_push_of_some _ (Heap.get?_push_size _ rfl), rfl, rfl⟩ (by rw [Heap.size_push, hz]) fun b o x => Heap.get?_push_of_some _ (Heap.get?_push_of_some _ x)⟩
end
/-- the tuple at a, each item in a new pair -/
def IteT (K : PySem.W.Frag) (a : Addr) : It :=
  ⟨fun i H => ∃ (xs : List V) (x : V), SqT K H a xs ∧ xs[i]? = some x, fun i H v H' => ∃ T x, v = .ref T ∧ H T = none ∧ H' = upd H T (.tup [.int (i : Nat), x]) ∧ ∀ xs, SqT K H a xs → xs[i]? = some x, fun i H => ∃ xs : List V, SqT K H a xs ∧ xs.length ≤ i⟩
theorem tupIter_at {h h' : Heap} {it a : Addr} {i : Nat} (x : h.IsTupleIter it a i) (hk : ∀ o, h.get? it = some o → h'.get? it = some o) : h'.IsTupleIter it a i :=
  let ⟨o, ho, r⟩ := x; ⟨o, hk o ho, r⟩
theorem turn_enumT {P : Program} {w : World} {K : PySem.W.Frag} {elts : List Expr} {kk : Nat} {tpos : Pos} (a e it : Addr) :
    Turn P w K (.Tuple elts kk tpos) (IteT K a) [e, it] e (fun i h => (∃ old, IsEnum h e it ((i : Nat) : Int) old) ∧ h.IsTupleIter it a i ∧ e ≠ it ∧ a ≠ it) where
  mem := by simp
  obj := fun i h st b hb => by
    obtain ⟨⟨old, he⟩, ⟨o, ho, hc, hd⟩, _, _⟩ := st
    have e' : b = e ∨ b = it := by simpa using hb
    rcases e' with z | z
    · rw [z]; exact ⟨_, he, fun v q => nomatch q⟩
    · rw [z]; exact ⟨o, ho, fun v q => by rw [hd] at q; cases q⟩
  keep := fun i h h' st k => let ⟨⟨old, he⟩, hi, hne, ha⟩ := st; ⟨⟨old, k e (by simp) _ he⟩, tupIter_at hi fun o q => k it (by simp) o q, hne, ha⟩
  item := by
    intro X hP hw hK hc i pins s σ H E I hf st hg
    subst hP hw hK
    obtain ⟨⟨old, he⟩, hit, hne, hai⟩ := st
    obtain ⟨xs, x, hq, hx⟩ := hg
    obtain ⟨its, rv, p, hz⟩ := I.tuple hq
    obtain ⟨u, hu, ru⟩ := rv.get hx
    have hel : e < s.heap.objs.size := Heap.lt_size he
    have hil : it < s.heap.objs.size := by obtain ⟨_, q, _⟩ := hit; exact Heap.lt_size q
    have pT : s.heap.IsTuple a its.toArray := p
    have hlt : i < its.toArray.size := by
      have := (List.getElem?_eq_some_iff.mp hu).1
      simpa using this
    by_cases hea : e = a
    · exfalso
      obtain ⟨o, ho, hc2, _⟩ := pT
      rw [← hea, he] at ho
      cases ho
      exact absurd (Value.type.inj hc2) (by decide)
    refine wpAny_pyNext_enum_itemD (Draws.tuple (show X.A.in1.handled = none from I.ok.hd hc) it a hai its.toArray) he ⟨hit, pT⟩ hlt hne (by
      intro hm
      have e' : e = it ∨ e = a := by simpa using hm
      rcases e' with z | z
      · exact hne z
      · exact hea z) fun y h' tk hP ho hs' hT hsz hk => ?_
    have ey : y = u := by
      have q1 : its.toArray[i]? = some y := hP
      have q2 : its[i]? = some y := by simpa using q1
      rw [hu] at q2
      exact (Option.some.inj q2).symm
    subst ey
    refine ⟨_, rfl, wpAny_letOwnedTupleGo_enum (s := { s with heap := h', toks := tk + 1 }) ho fun h'' he' sb => ?_⟩
    have hT2 : h''.get? s.heap.objs.size = some { cls := .type "tuple", data := .seq #[.int i tk, y] } := (sb.2 _ (Nat.ne_of_gt hel)).trans hT
    have new : ObjOk X.prog X.w (upd H s.heap.objs.size (.tup [.int (i : Nat), x])) h'' s.heap.objs.size (.tup [.int (i : Nat), x]) :=
      ⟨by show 2 ≤ sizeLine; decide, [.int i tk, y], .cons ⟨_, rfl⟩ (.cons ru .nil), ⟨_, hT2, rfl, _, rfl⟩⟩
    have I1 : Inv X pins σ (upd H s.heap.objs.size (.tup [.int (i : Nat), x])) { s with heap := h'', toks := tk + 1 } :=
      I.turnedNew (ch := [e, it]) (fun b ob hb q => (sb.2 b (fun z => hb (by simp [z]))).trans (hk b ob (fun z => hb (by simp [z])) (fun z => hb (by simp [z])) q)) hf (Nat.le_refl _) new
    refine ⟨.ref s.heap.objs.size, _, I1, rfl, ⟨_, x, rfl, I.hok.fresh (Nat.le_refl _), rfl, fun ys hy => by rw [I.tuple_inj hy hq]; exact hx⟩, ⟨⟨y, ?_⟩, tupIter_at hs'.1 fun o q => (sb.2 it (Ne.symm hne)).trans q, hne, hai⟩, fun b hb => ?_⟩
    · have e1 : ((i + 1 : Nat) : Int) = (i : Int) + 1 := by omega
      rw [e1]; exact he'
    · have hb' : b < s.heap.objs.size := by
        have e' : b = e ∨ b = it := by simpa using hb
        rcases e' with z | z
        · rw [z]; exact hel
        · rw [z]; exact hil
      rw [upd_ne (Nat.ne_of_lt hb')]
      exact (hf b hb).1
  done := by
    intro X hP hw hK hc i pins s σ H E I hf st hg
    subst hP hw hK
    obtain ⟨⟨old, he⟩, hit, hne, hai⟩ := st
    obtain ⟨xs, hq, hx⟩ := hg
    obtain ⟨its, rv, p, hz⟩ := I.tuple hq
    obtain ⟨f0, f1, f2, f3, f4, f5⟩ := hf it (by simp)
    have hl := rv.length
    have pT : s.heap.IsTuple a its.toArray := p
    have hh : X.A.in1.handled = none := I.ok.hd hc
    unfold pyNext
    have hTy : s.TypeIs (.ref e) "enumerate" := ⟨_, he, rfl⟩
    refine wpAny_bind (wpAny_attempt (wpAny_callSpecial?_slot (name := Str.ofString "__next__") hTy F.slot_enumerate_next
      (wpAny_call_entry F.slot_enumerate_next hTy F.entry_enumerate_next ?_ (F.args_enumerate_next_1 _))))
    show wpAny _ _ (field (.ref e) 2 >>= _) _ _ _
    refine wpAny_bind (wpAny_field he rfl (x := .ref it) rfl ?_)
    refine wpAny_bind (wpAny_nextOf_tuple_end hh hit pT (by simp; omega) fun h' x he' hx' => ?_)
    obtain ⟨o, ho, hc2⟩ := hx'
    refine wpAny_bind (wpAny_isInstance (T := "StopIteration") (b := true) ⟨o, ho, hc2⟩ isSubtype_stop ?_)
    exact wpAny_pure ⟨rfl, I.turned (t' := s.toks) (fun b o hb q => he' b o hb q) f0 f1 f3 f4 f5⟩
  self := fun A i s Q E st h => let ⟨⟨_, he⟩, _⟩ := st; wpAny_pyIter_enum he h
def iEnumT (K : PySem.W.Frag) (ta : TA) : TI := fun σ H R => ta σ H fun vs H1 => ∃ a xs, vs = [.ref a] ∧ SqT K H1 a xs ∧ R (IteT K a) H1
theorem pi_enumT {X : Cx} {e : Expr} {ta : TA} {p pos tpos : Pos} {elts : List Expr} {kk : Nat} (hg : Gl X "enumerate") (hm : X.mg "enumerate" = none) (ha : PA X [e] ta) (hs : starEach [e] X.env = [(false, eval e X.env)] := by rfl) :
    PI X (.Tuple elts kk tpos) (.Call (.Name "enumerate" p) [e] [] pos) (iEnumT X.K ta) := by
  refine ⟨fun pins s σ H R I h => ?_⟩
  refine Call_ (ld_blt I hg hm boot_enumerate (PyProof.Rows.callWith_type1 (thn (ha.run pos pins s σ H _ I h) fun us s1 ⟨vs, H1, I1, r1, q1⟩ => ?_) hs rfl))
  obtain ⟨a, xs, ex, hq, q⟩ := q1
  subst ex
  cases r1 with
  | cons r rr =>
    cases rr
    cases r
    obtain ⟨its, rv, p', hz⟩ := I1.tuple hq
    have pT : s1.heap.IsTuple a its.toArray := p'
    have hal : a < s1.heap.objs.size := by obtain ⟨o, ho, _⟩ := pT; exact Heap.lt_size ho
    refine call_enumerate_tuple pT fun h' he hit hsz hk => wpAny_pyIter_enum he ?_
    have I2 : Inv X pins σ H1 { s1 with heap := h' } := I1.kept (t' := s1.toks) hk
    refine ⟨s1.heap.objs.size + 1, [s1.heap.objs.size + 1, s1.heap.objs.size], _, _, H1, rfl, I2, turn_enumT a (s1.heap.objs.size + 1) s1.heap.objs.size, ⟨⟨.none, he⟩, hit, Nat.succ_ne_self _, Nat.ne_of_lt hal⟩, fun b hb => ?_, q⟩
    have e' : b = s1.heap.objs.size + 1 ∨ b = s1.heap.objs.size := by simpa using hb
    have hle : s1.heap.objs.size ≤ b := by
      rcases e' with z | z
      · rw [z]; exact Nat.le_add_right _ _
      · rw [z]; exact Nat.le_refl _
    exact I1.fpOk hle (I1.hok.fresh hle)
/-- by their data: pairs of a place and an item -/
def enumD (xs : List D) : List D := (List.range xs.length).map fun (i : Nat) => D.tup [.int (i : Int), xs.getD i .non]
theorem enumD_get {xs : List D} {i : Nat} {x : D} (h : xs[i]? = some x) : (enumD xs)[i]? = some (.tup [.int (i : Int), x]) := by
  obtain ⟨hi, e⟩ := List.getElem?_eq_some_iff.mp h
  unfold enumD
  rw [List.getElem?_map, List.getElem?_range hi]
  show some (D.tup [D.int (i : Int), xs.getD i .non]) = _
  rw [List.getD_eq_getElem?_getD, h]
  rfl
theorem enumD_len {xs : List D} : (enumD xs).length = xs.length := by simp [enumD]
theorem walk_enumT {K : PySem.W.Frag} {a : Addr} {xs : List V} : Walk (IteT K a) xs.length (fun H => SqT K H a xs) (fun i H v H' => ∃ T x, v = .ref T ∧ H T = none ∧ H' = upd H T (.tup [.int (i : Nat), x]) ∧ xs[i]? = some x) :=
  ⟨fun i _ hi q => ⟨xs, xs[i], q, by simp [hi]⟩, fun _ q => ⟨xs, q, Nat.le_refl _⟩, fun _ _ _ _ _ q ⟨T, x, e1, e2, e3, e4⟩ => ⟨T, x, e1, e2, e3, e4 xs q⟩⟩
theorem wi_enumT {K : PySem.W.Frag} {b : Bool} {δ : Sl} {tr : TA} {Φ : List D → Prop} (h : WA K b tr δ fun as => ∃ xs, as = [.dat (.tup xs)] ∧ Φ (enumD xs)) : WI K b (iEnumT K tr) δ Φ := fun A M H σ S R q =>
  h A M H σ S _ fun vs H1 as f1 r1 ⟨xs, e, p⟩ => by
    subst e
    cases r1 with
    | dat r2 r3 =>
      cases r3
      cases r2 with
      | tup ha n rl =>
        refine ⟨_, _, rfl, .inl (.inl ha), q _ H1 _ f1 ⟨_, _, _, walk_enumT, by rw [enumD_len]; exact rl.length, fun M2 H2 mv => ?_, fun i H2 v H3 M2 hi mv ht y => ?_⟩ p⟩
        · rcases (mv _ n (some_ne ha)).1 _ ha with q | ⟨_, _, e, _⟩
          · exact .inl (.inl q)
          · cases e
        · obtain ⟨T, x, rfl, hT, rfl, yv⟩ := y
          obtain ⟨d, e1, e2⟩ := rl.getV yv
          have hnT : ¬ M2 T := fun m => ht T m hT
          refine ⟨fun a o z => by rw [upd_ne (ne_of_none z hT)]; exact z, _, enumD_get e1, .tup upd_same hnT (.cons (.int _) (.cons ?_ .nil))⟩
          exact Rep.mv (fun a n2 h2 => ⟨Kp.of fun o z => by rw [upd_ne (ne_of_none z hT)]; exact z, n2⟩) (Rep.mv mv e2)
/-! ### calls by keywords alone -/
theorem pe_callK0 {X : Cx} {CX : CXT} {k : Nat} {f : Addr} {fd : FuncData} {ps ks : List Str} {sp : Sp} {E : XK} {x : Str} {p pos : Pos} {kws : List Keyword} {tk : TA} {g : List Value → List Value → List Value} {gV : List V → List V → List V}
    (F : FnOk X.prog X.w X.K X.mg X.base CX k f fd ps sp) (hr : Room k X.A) (hg : Gl X x) (hm : X.mg x = some (.ref f)) (hk : PySem.W.keepIn X.K (.ref f) = true) (hb : KBinds X.K fd ps ks g gV) (hx : Passes CX X E)
    (hkw : PK X kws tk) (hall : (backToKw pos (keywordEach kws X.env)).all (·.1.isSome) = true := by rfl) (hks : (backToKw pos (keywordEach kws X.env)).filterMap (·.1) = ks := by rfl)
    (hdb : (x == ("__debug__" : Str)) = false := by decide)
    (hpl : ((backTo pos (starEach [] X.env)).any (·.1) || (backToKw pos (keywordEach kws X.env)).any (·.1.isNone)) = false := by rfl) :
    PE X (.Call (.Name x p) [] kws pos) (tCallK sp gV E tNil tk) := by
  refine ⟨fun pins s σ H Q I h => ?_⟩
  refine wpAny_Call_Name_kw (ld_glob I hg hm ?_ hdb)
  refine PySem.W.callWith_KW0 (h₀ := X.base) I.ok.mod.kin hk hall ?_ hpl
  refine thn (hkw.run pos pins s σ H _ I h) fun ws s2 ⟨zs, H2, I2, rz, q2⟩ => ⟨I2.kIn, ?_⟩
  rw [hks]
  exact run_fnk F hr hb hx I2 .nil rz q2
/-! ### tuples of texts in order -/
def rLeTS (K : PySem.W.Frag) : R2 := fun x y H Q => ∃ (a b : Addr) (ns ms : List Str), x = .ref a ∧ y = .ref b ∧ SqT K H a (ns.map V.str) ∧ SqT K H b (ms.map V.str) ∧
  Q (.bl (Ob.lexAt (fun j => decide (ns.getD j Str.empty = ms.getD j Str.empty)) (fun j => !decide ((ms.getD j Str.empty).cps.toList < (ns.getD j Str.empty).cps.toList)) (decide (ns.length ≤ ms.length)) 0 (min ns.length ms.length))) H
theorem strs_at : ∀ {its : List Value} {ns : List Str}, Vals (ns.map V.str) its → ∀ j, j < its.length → ∃ t, its[j]? = some (.str (ns.getD j Str.empty) t)
  | _, [], .nil, j, h => by simp at h
  | _, n :: ns, .cons ⟨t, e⟩ r, 0, h => ⟨t, by simp [e]⟩
  | _, n :: ns, .cons _ r, j + 1, h => by
    obtain ⟨t, e⟩ := strs_at r j (by simpa using h)
    exact ⟨t, by simpa using e⟩
theorem op_leTS {X : Cx} (hu : X.A.units < cLine) : OpR X (compareOp .LtE) (rLeTS X.K) := by
  intro pins s σ H x y v u Q I rx ry h
  obtain ⟨a, b, ns, ms, rfl, rfl, ha, hb, q⟩ := h
  cases rx
  cases ry
  obtain ⟨its, r1, p1, _⟩ := I.tuple ha
  obtain ⟨its2, r2, p2, _⟩ := I.tuple hb
  have e1 : its.toArray.size = ns.length := by rw [List.size_toArray, ← r1.length, List.length_map]
  have e2 : its2.toArray.size = ms.length := by rw [List.size_toArray, ← r2.length, List.length_map]
  have at1 : ∀ j (h1 : j < its.toArray.size), ∃ t, its.toArray[j] = .str (ns.getD j Str.empty) t := fun j h1 => by
    obtain ⟨t, e⟩ := strs_at r1 j (by simpa using h1)
    refine ⟨t, ?_⟩
    have := List.getElem?_eq_some_iff.mp e
    obtain ⟨_, z⟩ := this
    simpa using z
  have at2 : ∀ j (h1 : j < its2.toArray.size), ∃ t, its2.toArray[j] = .str (ms.getD j Str.empty) t := fun j h1 => by
    obtain ⟨t, e⟩ := strs_at r2 j (by simpa using h1)
    refine ⟨t, ?_⟩
    have := List.getElem?_eq_some_iff.mp e
    obtain ⟨_, z⟩ := this
    simpa using z
  have R := Ob.RcOp.tuples_le (A := X.A) (s := s) (e := fun j => decide (ns.getD j Str.empty = ms.getD j Str.empty)) (r := fun j => !decide ((ms.getD j Str.empty).cps.toList < (ns.getD j Str.empty).cps.toList)) p1 p2 hu (fun j h1 h2 => by
    obtain ⟨t, et⟩ := at1 j h1
    obtain ⟨t', et'⟩ := at2 j h2
    rw [et, et']
    have z : (ns.getD j Str.empty == ms.getD j Str.empty) = decide (ns.getD j Str.empty = ms.getD j Str.empty) := by
      by_cases q : ns.getD j Str.empty = ms.getD j Str.empty
      · rw [decide_eq_true q]; exact beq_iff_eq.mpr q
      · rw [decide_eq_false q]; exact beq_eq_false_iff_ne.mpr q
    show SeqAt.EqAt X.A.in1 s _ _ (decide (ns.getD j Str.empty = ms.getD j Str.empty))
    rw [← z]
    exact SeqAt.EqAt.str_str _ _ _ _) (fun j h1 h2 _ => by
    obtain ⟨t, et⟩ := at1 j h1
    obtain ⟨t', et'⟩ := at2 j h2
    rw [et, et']
    intro prog w E Q2 hq
    exact PySem.P.le_str (by simpa using hq))
  rw [e1, e2] at R
  have z : wpAny (model X.prog X.w) X.A (compareOp .LtE (.ref a) (.ref b)) (EP X pins σ Q) X.xe s := R X.prog X.w X.xe (EP X pins σ Q) ⟨.bl _, H, I, rfl, q⟩
  exact z
/-! ### in a tuple of data -/
def rInDT (K : PySem.W.Frag) : R2 := fun x y H Q => ∃ d ds, Dp K H x d ∧ Dp K H y (.tuple ds) ∧ SeqAt.shaped d = true ∧ SeqAt.shaped (.tuple ds) = true ∧ Q (.bl (ds.any fun z => PyData.eqv z d)) H
def rNotInDT (K : PySem.W.Frag) : R2 := fun x y H Q => ∃ d ds, Dp K H x d ∧ Dp K H y (.tuple ds) ∧ SeqAt.shaped d = true ∧ SeqAt.shaped (.tuple ds) = true ∧ Q (.bl (!ds.any fun z => PyData.eqv z d)) H
theorem room_in_shapedT {A : Around} {d : PyData} {ds : List PyData} (h : SeqAt.shaped d = true) (hu : A.units + 65 < cLine) : A.units + 1 + min (PyData.depthAll ds) d.depth < cLine := by
  have h2 : d.depth ≤ 64 := by
    have q : (d.canLay0 && decide (d.depth ≤ 64)) = true := h
    rw [Bool.and_eq_true] at q
    exact of_decide_eq_true q.2
  omega
theorem op_inDT {X : Cx} (hu : X.A.units + 65 < cLine) : OpR X (compareOp .In) (rInDT X.K) := by
  intro pins s σ H x y v u Q I rx ry h
  obtain ⟨d, ds, hd, he, sd, se, q⟩ := h
  obtain ⟨as, r1⟩ := Dp.reads I d x v hd rx
  obtain ⟨bs, r2⟩ := Dp.reads I (.tuple ds) y u he ry
  exact SeqAt.in_tuple_reads r2 r1 (SeqAt.canLay_of_shaped se) (SeqAt.canLay_of_shaped sd) (room_in_shapedT sd hu) ⟨.bl _, H, I, rfl, q⟩
theorem op_notInDT {X : Cx} (hu : X.A.units + 65 < cLine) : OpR X (compareOp .NotIn) (rNotInDT X.K) := by
  intro pins s σ H x y v u Q I rx ry h
  obtain ⟨d, ds, hd, he, sd, se, q⟩ := h
  obtain ⟨as, r1⟩ := Dp.reads I d x v hd rx
  obtain ⟨bs, r2⟩ := Dp.reads I (.tuple ds) y u he ry
  exact SeqAt.notIn_tuple_reads r2 r1 (SeqAt.canLay_of_shaped se) (SeqAt.canLay_of_shaped sd) (room_in_shapedT sd hu) ⟨.bl _, H, I, rfl, q⟩
/-! ### in a dict, as operators -/
def rInDict : R2 := fun y x H Q => ∃ a o, x = .ref a ∧ DGet H a y o ∧ Q (.bl o.isSome) H
def rNotInDict : R2 := fun y x H Q => ∃ a o, x = .ref a ∧ DGet H a y o ∧ Q (.bl (!o.isSome)) H
theorem op_inDict {X : Cx} (hu : X.A.units + 1 < cLine) : OpR X (compareOp .In) rInDict := by
  intro pins s σ H x y v u Q I rx ry h
  obtain ⟨a, o, rfl, g, q⟩ := h
  cases ry
  exact d_in hu I g rx fun s' I' => ⟨.bl _, H, I', rfl, q⟩
theorem op_notInDict {X : Cx} (hu : X.A.units + 1 < cLine) : OpR X (compareOp .NotIn) rNotInDict := by
  intro pins s σ H x y v u Q I rx ry h
  obtain ⟨a, o, rfl, g, q⟩ := h
  cases ry
  exact d_notIn hu I g rx fun s' I' => ⟨.bl _, H, I', rfl, q⟩
def rLenDR : List V → Hp → VK → Prop := fun xs H Q => ∃ a kvs, xs = [V.ref a] ∧ Rd H a (.dK kvs) ∧ Q (.int kvs.length) H
theorem call_lenDR {X : Cx} : CallR X (.builtin "len") rLenDR := by
  intro pins s σ H xs us Q I r h
  obtain ⟨a, kvs, rfl, ha, q⟩ := h
  obtain ⟨u, rfl, ru⟩ := vals1 r
  cases ru
  exact d_len I ha fun t s' I' => ⟨.int kvs.length, H, I', ⟨t, rfl⟩, q⟩
end Z

/-! Zo: operators for any kind of value, and what they do by data. -/
namespace Z
open PySem PySem.Spec PyProof.Rows L2
theorem hu65 {A : Around} {k : Nat} (hr : Room k A) : A.units + 65 < cLine := by have := hr.un; omega
theorem hu0 {A : Around} {k : Nat} (hr : Room k A) : A.units < cLine := by have := hr.un; omega
section
variable {K : PySem.W.Frag} {M W : AS} {H H' : Hp} {Φ : D → Prop}
theorem St0.nw (s : St0 M W H) {p : Addr} (hp : H p = none) : ¬ W p := fun w => s.2.1 p (s.1 p w) hp
theorem St0.nm (s : St0 M W H) {p : Addr} (hp : H p = none) : ¬ M p := fun w => s.2.1 p w hp
theorem mk_fr (s : St0 M W H) {p : Addr} {o : HO} (hp : H p = none) : Fr W H (upd H p o) := Fr.new hp (s.nw hp)
theorem mk_tup (s : St0 M W H) {vs : List V} {xs : List D} (r : RepL K M H vs xs) {p : Addr} (hp : H p = none) : Rep K M (upd H p (.tup vs)) (.ref p) (.tup xs) := .tup upd_same (s.nm hp) (r.fr (mk_fr s hp) s.1)
theorem mk_lst (s : St0 M W H) {vs : List V} {xs : List D} (r : RepL K M H vs xs) {p : Addr} (hp : H p = none) : Rep K M (upd H p (.lst vs)) (.ref p) (.lst xs) := .lst upd_same (s.nm hp) (r.fr (mk_fr s hp) s.1)
theorem sz100 {n : Nat} (h : n ≤ 100000) : n ≤ sizeLine := Nat.le_trans h (by decide)
theorem sz1000 {n : Nat} (h : n < 100000) : n < sizeLine := Nat.lt_of_lt_of_le h (by decide)
/-! ### + -/
def rAddU (K : PySem.W.Frag) : R2 := fun x y H Q => (rI0 fun i j => .int (i + j)) x y H Q ∨ ((fun x y H Q => ∃ i j, x = V.str i ∧ y = V.str j ∧ i.length + j.length ≤ sizeLine ∧ Q (V.str (i ++ j)) H) x y H Q ∨ (rCat x y H Q ∨ rCatA K x y H Q))
theorem op_addU {X : Cx} : OpR X (binaryOp .Add) (rAddU X.K) := OpR.or op_add (OpR.or op_add_str (OpR.or op_cat op_catA))
theorem os_add_int {i j : Int} (h : Φ (.int (i + j))) : OpS K (rAddU K) (.int i) (.int j) Φ := fun M W H vx vy s rx ry Q q => by
  cases rx; cases ry
  exact .inl ⟨i, j, rfl, rfl, q _ H _ Fr.refl (.int _) h⟩
theorem os_add_str {i j : Str} (hl : i.length + j.length ≤ 100000) (h : Φ (.str (i ++ j))) : OpS K (rAddU K) (.str i) (.str j) Φ := fun M W H vx vy s rx ry Q q => by
  cases rx; cases ry
  exact .inr (.inl ⟨i, j, rfl, rfl, sz100 hl, q _ H _ Fr.refl (.str _) h⟩)
theorem os_cat {xs ys : List D} (hl : xs.length + ys.length ≤ 100000) (h : Φ (.lst (xs ++ ys))) : OpS K (rAddU K) (.lst xs) (.lst ys) Φ := fun M W H vx vy s rx ry Q q => by
  cases rx with
  | lst ha n r =>
    cases ry with
    | lst hb n2 r2 =>
      exact .inr (.inr (.inl ⟨_, _, _, _, rfl, rfl, ha, hb, by rw [r.length, r2.length]; exact sz100 hl, fun p hp => q _ _ _ (mk_fr s hp) (mk_lst s (r.append r2) hp) h⟩))
theorem os_catT {xs ys : List D} (hl : xs.length + ys.length ≤ 100000) (h : Φ (.tup (xs ++ ys))) : OpS K (rAddU K) (.tup xs) (.tup ys) Φ := fun M W H vx vy s rx ry Q q => by
  cases rx with
  | tup ha n r =>
    cases ry with
    | tup hb n2 r2 =>
      refine .inr (.inr (.inr ⟨_, _, _, _, rfl, rfl, .inl (.inl ha), .inl (.inl hb), by rw [r.length, r2.length]; exact sz100 hl, fun e => ?_, fun _ e => ?_, fun _ _ p hp => q _ _ _ (mk_fr s hp) (mk_tup s (r.append r2) hp) h⟩))
      · subst e
        cases r
        exact q _ H _ Fr.refl (.tup hb n2 r2) h
      · subst e
        cases r2
        rw [List.append_nil] at h
        exact q _ H _ Fr.refl (.tup ha n r) h
/-! ### - * % // ** -/
abbrev rSubU : R2 := rI0 fun i j => .int (i - j)
theorem os_sub {i j : Int} (h : Φ (.int (i - j))) : OpS K rSubU (.int i) (.int j) Φ := fun M W H vx vy s rx ry Q q => by
  cases rx; cases ry
  exact ⟨i, j, rfl, rfl, q _ H _ Fr.refl (.int _) h⟩
abbrev rMulU : R2 := rI CMul fun i j => .int (i * j)
theorem os_mul {i j : Int} (hc : CMul i j) (h : Φ (.int (i * j))) : OpS K rMulU (.int i) (.int j) Φ := fun M W H vx vy s rx ry Q q => by
  cases rx; cases ry
  exact ⟨i, j, rfl, rfl, hc, q _ H _ Fr.refl (.int _) h⟩
abbrev rModU : R2 := rI (fun _ j => 0 < j) fun i j => .int (i % j)
theorem os_mod {i j : Int} (hc : 0 < j) (h : Φ (.int (i % j))) : OpS K rModU (.int i) (.int j) Φ := fun M W H vx vy s rx ry Q q => by
  cases rx; cases ry
  exact ⟨i, j, rfl, rfl, hc, q _ H _ Fr.refl (.int _) h⟩
abbrev rDivU : R2 := rI CDiv fun i j => .int (i / j)
theorem os_div {i j : Int} (hc : 0 < j ∧ j < 1073741824) (h : Φ (.int (i / j))) : OpS K rDivU (.int i) (.int j) Φ := fun M W H vx vy s rx ry Q q => by
  cases rx; cases ry
  exact ⟨i, j, rfl, rfl, hc, q _ H _ Fr.refl (.int _) h⟩
abbrev rPowU : R2 := rI CPow fun i j => .int (i ^ j.toNat)
theorem os_pow {i j : Int} (hc : CPow i j) (h : Φ (.int (i ^ j.toNat))) : OpS K rPowU (.int i) (.int j) Φ := fun M W H vx vy s rx ry Q q => by
  cases rx; cases ry
  exact ⟨i, j, rfl, rfl, hc, q _ H _ Fr.refl (.int _) h⟩
theorem us_neg {i : Int} (h : Φ (.int (-i))) : UnS K (rU fun i => .int (-i)) (.int i) Φ := fun M W H vx s rx Q q => by
  cases rx
  exact ⟨i, rfl, q _ H _ Fr.refl (.int _) h⟩
/-! ### data of the model's kind: for == and in -/
mutual
def toP : D → Option PyData
  | .non => some .none
  | .bl b => some (.bool b)
  | .int i => some (.int i)
  | .str s => some (.str s)
  | .tup xs => (toPs xs).map .tuple
  | .lst xs => (toPs xs).map .list
  | _ => none
def toPs : List D → Option (List PyData)
  | [] => some []
  | x :: xs => match toP x, toPs xs with
    | some a, some b => some (a :: b)
    | _, _ => none
end
mutual
theorem rep_dp : ∀ {v : V} {d : D} {p : PyData}, Rep K M H v d → toP d = some p → Dp K H v p
  | _, _, _, .non, e => by simp only [toP] at e; cases e; exact .non
  | _, _, _, .bl b, e => by simp only [toP] at e; cases e; exact .bl b
  | _, _, _, .int i, e => by simp only [toP] at e; cases e; exact .int i
  | _, _, _, .str s, e => by simp only [toP] at e; cases e; exact .str s
  | _, _, _, .tup (xs := xs) h n r, e => by
    simp only [toP] at e
    obtain ⟨ps, e1, rfl⟩ := Option.map_eq_some_iff.mp e
    exact .tup (.inl (.inl h)) (rep_dps r e1)
  | _, _, _, .lst (xs := xs) h n r, e => by
    simp only [toP] at e
    obtain ⟨ps, e1, rfl⟩ := Option.map_eq_some_iff.mp e
    exact .lst (.inl (.inl h)) (rep_dps r e1)
  | _, _, _, .fl h, e => by simp only [toP] at e; cases e
  | _, _, _, .dic h n r, e => by simp only [toP] at e; cases e
  | _, _, _, .ins h n r, e => by simp only [toP] at e; cases e
  | _, _, _, .clv v, e => by simp only [toP] at e; cases e
theorem rep_dps : ∀ {vs : List V} {xs : List D} {ps : List PyData}, RepL K M H vs xs → toPs xs = some ps → DpAll K H vs ps
  | _, _, _, .nil, e => by simp only [toPs] at e; cases e; exact .nil
  | _, _, _, .cons (x := x) (xs := xs) h r, e => by
    simp only [toPs] at e
    cases e1 : toP x with
    | none => rw [e1] at e; cases e
    | some a =>
      cases e2 : toPs xs with
      | none => rw [e1, e2] at e; cases e
      | some b =>
        rw [e1, e2] at e
        cases e
        exact .cons (rep_dp h e1) (rep_dps r e2)
end
/-! ### comparisons -/
def rEqU (K : PySem.W.Frag) : R2 := fun x y H Q => rEq x y H Q ∨ rEqD K x y H Q
theorem op_eqU {X : Cx} {k : Nat} (hr : Room k X.A) : OpR X (compareOp .Eq) (rEqU X.K) := OpR.or op_eq (op_eqD hr.units)
def rNeU (K : PySem.W.Frag) : R2 := fun x y H Q => rNe x y H Q ∨ rNeD K x y H Q
theorem op_neU {X : Cx} {k : Nat} (hr : Room k X.A) : OpR X (compareOp .NotEq) (rNeU X.K) := OpR.or op_ne (op_neD hr.units)
theorem os_eq_int {i j : Int} (h : Φ (.bl (decide (i = j)))) : OpS K (rEqU K) (.int i) (.int j) Φ := fun M W H vx vy s rx ry Q q => by
  cases rx; cases ry
  refine .inl ⟨rfl, ?_⟩
  have e : decide (V.int i = V.int j) = decide (i = j) := by by_cases z : i = j <;> simp [z]
  rw [e]
  exact q _ H _ Fr.refl (.bl _) h
theorem os_ne_int {i j : Int} (h : Φ (.bl (!decide (i = j)))) : OpS K (rNeU K) (.int i) (.int j) Φ := fun M W H vx vy s rx ry Q q => by
  cases rx; cases ry
  refine .inl ⟨rfl, ?_⟩
  have e : decide (V.int i = V.int j) = decide (i = j) := by by_cases z : i = j <;> simp [z]
  rw [e]
  exact q _ H _ Fr.refl (.bl _) h
theorem os_eq_str {i j : Str} (h : Φ (.bl (decide (i = j)))) : OpS K (rEqU K) (.str i) (.str j) Φ := fun M W H vx vy s rx ry Q q => by
  cases rx; cases ry
  refine .inl ⟨rfl, ?_⟩
  have e : decide (V.str i = V.str j) = decide (i = j) := by by_cases z : i = j <;> simp [z]
  rw [e]
  exact q _ H _ Fr.refl (.bl _) h
theorem os_ne_str {i j : Str} (h : Φ (.bl (!decide (i = j)))) : OpS K (rNeU K) (.str i) (.str j) Φ := fun M W H vx vy s rx ry Q q => by
  cases rx; cases ry
  refine .inl ⟨rfl, ?_⟩
  have e : decide (V.str i = V.str j) = decide (i = j) := by by_cases z : i = j <;> simp [z]
  rw [e]
  exact q _ H _ Fr.refl (.bl _) h
theorem os_eq_bl {i j : Bool} (h : Φ (.bl (decide (i = j)))) : OpS K (rEqU K) (.bl i) (.bl j) Φ := fun M W H vx vy s rx ry Q q => by
  cases rx; cases ry
  refine .inl ⟨rfl, ?_⟩
  have e : decide (V.bl i = V.bl j) = decide (i = j) := by by_cases z : i = j <;> simp [z]
  rw [e]
  exact q _ H _ Fr.refl (.bl _) h
theorem os_eq_data {x y : D} {p q : PyData} (hp : toP x = some p) (hq : toP y = some q) (sp : SeqAt.shaped p = true) (sq : SeqAt.shaped q = true) (h : Φ (.bl (PyData.eqv p q))) : OpS K (rEqU K) x y Φ := fun M W H vx vy s rx ry Q k =>
  .inr ⟨p, q, rep_dp rx hp, rep_dp ry hq, sp, sq, k _ H _ Fr.refl (.bl _) h⟩
theorem os_ne_data {x y : D} {p q : PyData} (hp : toP x = some p) (hq : toP y = some q) (sp : SeqAt.shaped p = true) (sq : SeqAt.shaped q = true) (h : Φ (.bl (!PyData.eqv p q))) : OpS K (rNeU K) x y Φ := fun M W H vx vy s rx ry Q k =>
  .inr ⟨p, q, rep_dp rx hp, rep_dp ry hq, sp, sq, k _ H _ Fr.refl (.bl _) h⟩
def rLtU : R2 := fun x y H Q => (rI0 fun i j => .bl (decide (i < j))) x y H Q ∨ (fun x y H Q => ∃ i j, x = V.str i ∧ y = V.str j ∧ Q (V.bl (decide (i.cps.toList < j.cps.toList))) H) x y H Q
theorem op_ltU {X : Cx} : OpR X (compareOp .Lt) rLtU := OpR.or op_lt op_lt_str
theorem os_lt_int {i j : Int} (h : Φ (.bl (decide (i < j)))) : OpS K rLtU (.int i) (.int j) Φ := fun M W H vx vy s rx ry Q q => by
  cases rx; cases ry
  exact .inl ⟨i, j, rfl, rfl, q _ H _ Fr.refl (.bl _) h⟩
theorem os_lt_str {i j : Str} (h : Φ (.bl (decide (i.cps.toList < j.cps.toList)))) : OpS K rLtU (.str i) (.str j) Φ := fun M W H vx vy s rx ry Q q => by
  cases rx; cases ry
  exact .inr ⟨i, j, rfl, rfl, q _ H _ Fr.refl (.bl _) h⟩
def rLeU (K : PySem.W.Frag) : R2 := fun x y H Q => (rI0 fun i j => .bl (decide (i ≤ j))) x y H Q ∨ ((fun x y H Q => ∃ i j, x = V.str i ∧ y = V.str j ∧ Q (V.bl (!decide (j.cps.toList < i.cps.toList))) H) x y H Q ∨ rLeTS K x y H Q)
theorem op_leU {X : Cx} {k : Nat} (hr : Room k X.A) : OpR X (compareOp .LtE) (rLeU X.K) := OpR.or op_le (OpR.or op_le_str (op_leTS (hu0 hr)))
theorem os_le_int {i j : Int} (h : Φ (.bl (decide (i ≤ j)))) : OpS K (rLeU K) (.int i) (.int j) Φ := fun M W H vx vy s rx ry Q q => by
  cases rx; cases ry
  exact .inl ⟨i, j, rfl, rfl, q _ H _ Fr.refl (.bl _) h⟩
theorem os_le_str {i j : Str} (h : Φ (.bl (!decide (j.cps.toList < i.cps.toList)))) : OpS K (rLeU K) (.str i) (.str j) Φ := fun M W H vx vy s rx ry Q q => by
  cases rx; cases ry
  exact .inr (.inl ⟨i, j, rfl, rfl, q _ H _ Fr.refl (.bl _) h⟩)
def leTS (ns ms : List Str) : Bool := Ob.lexAt (fun j => decide (ns.getD j Str.empty = ms.getD j Str.empty)) (fun j => !decide ((ms.getD j Str.empty).cps.toList < (ns.getD j Str.empty).cps.toList)) (decide (ns.length ≤ ms.length)) 0 (min ns.length ms.length)
theorem os_le_tups {ns ms : List Str} (h : Φ (.bl (leTS ns ms))) : OpS K (rLeU K) (.tup (ns.map D.str)) (.tup (ms.map D.str)) Φ := fun M W H vx vy s rx ry Q q => by
  cases rx with
  | tup ha n r =>
    cases ry with
    | tup hb n2 r2 =>
      have e1 := r.strs
      have e2 := r2.strs
      subst e1 e2
      exact .inr (.inr ⟨_, _, ns, ms, rfl, rfl, .inl (.inl ha), .inl (.inl hb), q _ H _ Fr.refl (.bl _) h⟩)
abbrev rGtU : R2 := rI0 fun i j => .bl (decide (j < i))
abbrev rGeU : R2 := rI0 fun i j => .bl (decide (j ≤ i))
theorem os_gt {i j : Int} (h : Φ (.bl (decide (j < i)))) : OpS K rGtU (.int i) (.int j) Φ := fun M W H vx vy s rx ry Q q => by
  cases rx; cases ry
  exact ⟨i, j, rfl, rfl, q _ H _ Fr.refl (.bl _) h⟩
theorem os_ge {i j : Int} (h : Φ (.bl (decide (j ≤ i)))) : OpS K rGeU (.int i) (.int j) Φ := fun M W H vx vy s rx ry Q q => by
  cases rx; cases ry
  exact ⟨i, j, rfl, rfl, q _ H _ Fr.refl (.bl _) h⟩
/-- is None -/
def isNonD : D → Bool
  | .non => true
  | _ => false
theorem rep_isNon {v : V} {d : D} (r : Rep K M H v d) (hc : ∀ w, d ≠ .clv w) : decide (v = .non) = isNonD d := by
  cases r with
  | clv v => exact absurd rfl (hc v)
  | non => rfl
  | _ => exact decide_eq_false fun z => by cases z
abbrev rIsNU : R2 := fun x y H Q => y = .non ∧ Q (.bl (decide (x = .non))) H
abbrev rNotNU : R2 := fun x y H Q => y = .non ∧ Q (.bl (!decide (x = .non))) H
theorem os_isN {x : D} (hc : ∀ w, x ≠ .clv w) (h : Φ (.bl (isNonD x))) : OpS K rIsNU x .non Φ := fun M W H vx vy s rx ry Q q => by
  cases ry
  refine ⟨rfl, ?_⟩
  rw [rep_isNon rx hc]
  exact q _ H _ Fr.refl (.bl _) h
theorem os_notN {x : D} (hc : ∀ w, x ≠ .clv w) (h : Φ (.bl (!isNonD x))) : OpS K rNotNU x .non Φ := fun M W H vx vy s rx ry Q q => by
  cases ry
  refine ⟨rfl, ?_⟩
  rw [rep_isNon rx hc]
  exact q _ H _ Fr.refl (.bl _) h
/-! ### in -/
def rInU (K : PySem.W.Frag) : R2 := fun x y H Q => rIn K false x y H Q ∨ ((fun x y H Q => ∃ (c : Nat) (z : Str), x = V.str ⟨#[c]⟩ ∧ y = V.str z ∧ Q (V.bl (decide (c ∈ z.cps.toList))) H) x y H Q ∨ (rInDict x y H Q ∨ rInDT K x y H Q))
theorem op_inU {X : Cx} {k : Nat} (hr : Room k X.A) : OpR X (compareOp .In) (rInU X.K) := OpR.or op_in_seq (OpR.or op_in_sign (OpR.or (op_inDict (hu_of hr)) (op_inDT (hu65 hr))))
def rNotInU (K : PySem.W.Frag) : R2 := fun x y H Q => rIn K true x y H Q ∨ ((fun x y H Q => ∃ (c : Nat) (z : Str), x = V.str ⟨#[c]⟩ ∧ y = V.str z ∧ Q (V.bl (!decide (c ∈ z.cps.toList))) H) x y H Q ∨ (rNotInDict x y H Q ∨ rNotInDT K x y H Q))
theorem op_notInU {X : Cx} {k : Nat} (hr : Room k X.A) : OpR X (compareOp .NotIn) (rNotInU X.K) := OpR.or op_notIn_seq (OpR.or op_notIn_sign (OpR.or (op_notInDict (hu_of hr)) (op_notInDT (hu65 hr))))
theorem inV_strs (s : Str) : ∀ ns : List Str, inV (.str s) (ns.map V.str) = decide (s ∈ ns)
  | [] => rfl
  | n :: ns => by
    have ih := inV_strs s ns
    unfold inV at ih ⊢
    rw [List.map_cons, List.any_cons, ih]
    show (n == s || decide (s ∈ ns)) = _
    by_cases e : s = n
    · subst e; simp
    · have e2 : (n == s) = false := beq_eq_false_iff_ne.mpr (Ne.symm e)
      rw [e2]
      simp [e]
theorem flat_strs : ∀ ns : List Str, (ns.map V.str).all flatV = true
  | [] => rfl
  | n :: ns => by
    rw [List.map_cons, List.all_cons, flat_strs ns]
    rfl
theorem os_in_strs {s : Str} {ns : List Str} (h : Φ (.bl (decide (s ∈ ns)))) : OpS K (rInU K) (.str s) (.lst (ns.map D.str)) Φ := fun M W H vx vy st rx ry Q q => by
  cases rx
  cases ry with
  | lst ha n r =>
    have e1 := r.strs
    subst e1
    refine .inl ⟨_, _, rfl, .inl (.inl (.inl ha)), rfl, flat_strs ns, ?_⟩
    show Q (.bl (inV (.str s) (ns.map V.str))) H
    rw [inV_strs]
    exact q _ H _ Fr.refl (.bl _) h
theorem os_notIn_strs {s : Str} {ns : List Str} (h : Φ (.bl (!decide (s ∈ ns)))) : OpS K (rNotInU K) (.str s) (.lst (ns.map D.str)) Φ := fun M W H vx vy st rx ry Q q => by
  cases rx
  cases ry with
  | lst ha n r =>
    have e1 := r.strs
    subst e1
    refine .inl ⟨_, _, rfl, .inl (.inl (.inl ha)), rfl, flat_strs ns, ?_⟩
    show Q (.bl (!inV (.str s) (ns.map V.str))) H
    rw [inV_strs]
    exact q _ H _ Fr.refl (.bl _) h
theorem os_in_sign {c : Nat} {z : Str} (h : Φ (.bl (decide (c ∈ z.cps.toList)))) : OpS K (rInU K) (.str ⟨#[c]⟩) (.str z) Φ := fun M W H vx vy st rx ry Q q => by
  cases rx; cases ry
  exact .inr (.inl ⟨c, z, rfl, rfl, q _ H _ Fr.refl (.bl _) h⟩)
theorem dget_of {a : Addr} {vs : List (Key × V)} {xs : List (Key × D)} (h : Rd H a (.dK vs)) (k : Key) : DGet H a (kV k) (valV vs k) := .inl ⟨vs, k, h, rfl, rfl⟩
theorem RepO.isSome {o : Option V} {p : Option D} (r : RepO K M H o p) : o.isSome = p.isSome := by cases r <;> rfl
theorem os_in_dic {s : Str} {kvs : List (Key × D)} (h : Φ (.bl (valD kvs (Sum.inr s)).isSome)) : OpS K (rInU K) (.str s) (.dic kvs) Φ := fun M W H vx vy st rx ry Q q => by
  cases rx
  cases ry with
  | dic ha n r =>
    refine .inr (.inr (.inl ⟨_, _, rfl, dget_of (xs := kvs) ha (Sum.inr s), ?_⟩))
    rw [(r.val _).isSome]
    exact q _ H _ Fr.refl (.bl _) h
theorem os_notIn_dic {s : Str} {kvs : List (Key × D)} (h : Φ (.bl (!(valD kvs (Sum.inr s)).isSome))) : OpS K (rNotInU K) (.str s) (.dic kvs) Φ := fun M W H vx vy st rx ry Q q => by
  cases rx
  cases ry with
  | dic ha n r =>
    refine .inr (.inr (.inl ⟨_, _, rfl, dget_of (xs := kvs) ha (Sum.inr s), ?_⟩))
    rw [(r.val _).isSome]
    exact q _ H _ Fr.refl (.bl _) h
theorem os_in_tup {x : D} {ys : List D} {p : PyData} {qs : List PyData} (hp : toP x = some p) (hq : toPs ys = some qs) (sp : SeqAt.shaped p = true) (sq : SeqAt.shaped (.tuple qs) = true) (h : Φ (.bl (qs.any fun z => PyData.eqv z p))) :
    OpS K (rInU K) x (.tup ys) Φ := fun M W H vx vy st rx ry Q q =>
  .inr (.inr (.inr ⟨p, qs, rep_dp rx hp, rep_dp ry (by simp only [toP, hq]; rfl), sp, sq, q _ H _ Fr.refl (.bl _) h⟩))
theorem os_notIn_tup {x : D} {ys : List D} {p : PyData} {qs : List PyData} (hp : toP x = some p) (hq : toPs ys = some qs) (sp : SeqAt.shaped p = true) (sq : SeqAt.shaped (.tuple qs) = true) (h : Φ (.bl (!qs.any fun z => PyData.eqv z p))) :
    OpS K (rNotInU K) x (.tup ys) Φ := fun M W H vx vy st rx ry Q q =>
  .inr (.inr (.inr ⟨p, qs, rep_dp rx hp, rep_dp ry (by simp only [toP, hq]; rfl), sp, sq, q _ H _ Fr.refl (.bl _) h⟩))
/-! ### items -/
theorem RepL.atI {vs : List V} {xs : List D} (r : RepL K M H vs xs) {i : Int} {x : D} (h : L2.atI xs i = some x) : ∃ v, L2.atI vs i = some v ∧ Rep K M H v x := by
  unfold L2.atI at h ⊢
  rw [r.length]
  cases e : ixN xs.length i with
  | none => rw [e] at h; cases h
  | some j =>
    rw [e] at h
    obtain ⟨v, h1, h2⟩ := r.get (i := j) h
    exact ⟨v, h1, h2⟩
theorem os_ix_tup {xs : List D} {i : Int} {x : D} (e : L2.atI xs i = some x) (h : Φ x) : OpS K (rIx K) (.tup xs) (.int i) Φ := fun M W H vx vy st rx ry Q q => by
  cases ry
  cases rx with
  | tup ha n r =>
    obtain ⟨v, h1, h2⟩ := r.atI e
    exact .inr (.inl ⟨_, _, _, v, rfl, rfl, .inl (.inl ha), h1, q _ H _ Fr.refl h2 h⟩)
theorem os_ix_lst {xs : List D} {i : Int} {x : D} (e : L2.atI xs i = some x) (h : Φ x) : OpS K (rIx K) (.lst xs) (.int i) Φ := fun M W H vx vy st rx ry Q q => by
  cases ry
  cases rx with
  | lst ha n r =>
    obtain ⟨v, h1, h2⟩ := r.atI e
    exact .inl ⟨_, _, _, v, rfl, rfl, .inl (.inl ha), h1, q _ H _ Fr.refl h2 h⟩
theorem os_ix_fl {xs : List Int} {i x : Int} (e : L2.atI xs i = some x) (h : Φ (.int x)) : OpS K (rIx K) (.fl xs) (.int i) Φ := fun M W H vx vy st rx ry Q q => by
  cases ry
  cases rx with
  | fl ha =>
    refine .inl ⟨_, _, _, .int x, rfl, rfl, ha.sql, ?_, q _ H _ Fr.refl (.int x) h⟩
    unfold L2.atI at e ⊢
    rw [List.length_map]
    cases e2 : ixN xs.length i with
    | none => rw [e2] at e; cases e
    | some j =>
      rw [e2] at e
      show (xs.map V.int)[j]? = some (.int x)
      rw [List.getElem?_map, show xs[j]? = some x from e]
      rfl
theorem os_ix_str {z : Str} {i : Int} {c : Nat} (hz : z.length ≤ 100000) (e : L2.atI z.cps.toList i = some c) (h : Φ (.str ⟨#[c]⟩)) : OpS K (rIx K) (.str z) (.int i) Φ := fun M W H vx vy st rx ry Q q => by
  cases ry
  cases rx
  exact .inr (.inr ⟨z, i, c, rfl, rfl, sz100 hz, e, q _ H _ Fr.refl (.str _) h⟩)
theorem atI_nat {α : Type} {xs : List α} {i : Nat} {x : α} (h : xs[i]? = some x) : L2.atI xs (i : Int) = some x := by
  obtain ⟨hi, _⟩ := List.getElem?_eq_some_iff.mp h
  unfold L2.atI ixN
  rw [if_pos (by omega), if_pos (by omega)]
  simpa using h
/-! ### slices -/
def cutD (xs : List D) (lo hi : Option Int) : List D := (xs.drop (HT.sIx xs.length 0 lo)).take (HT.sIx xs.length xs.length hi - HT.sIx xs.length 0 lo)
theorem RepL.cut {vs : List V} {xs : List D} (r : RepL K M H vs xs) (lo hi : Option Int) : RepL K M H (cutV vs lo hi) (cutD xs lo hi) := by
  unfold cutV cutD
  rw [r.length]
  exact (r.drop _).take _
def rSlU (K : PySem.W.Frag) : V → Option Int → Option Int → Hp → VK → Prop := fun x lo hi H Q => rSlL K x lo hi H Q ∨ rSlA K x lo hi H Q
theorem sl_U {X : Cx} : SlR X (rSlU X.K) := SlR.or sl_list sl_tupA
theorem ss_lst {xs : List D} {lo hi : Option Int} (h : Φ (.lst (cutD xs lo hi))) : SlS K (rSlU K) (.lst xs) lo hi Φ := fun M W H vx st rx Q q => by
  cases rx with
  | lst ha n r => exact .inl ⟨_, _, rfl, .inl (.inl ha), fun p hp => q _ _ _ (mk_fr st hp) (mk_lst st (r.cut lo hi) hp) h⟩
theorem cutV_ints (ns : List Int) (lo hi : Option Int) : cutV (ns.map V.int) lo hi = ((ns.drop (HT.sIx ns.length 0 lo)).take (HT.sIx ns.length ns.length hi - HT.sIx ns.length 0 lo)).map V.int := by
  unfold cutV
  rw [List.length_map, List.map_take, List.map_drop]
def cutI (xs : List Int) (lo hi : Option Int) : List Int := (xs.drop (HT.sIx xs.length 0 lo)).take (HT.sIx xs.length xs.length hi - HT.sIx xs.length 0 lo)
theorem ss_fl {xs : List Int} {lo hi : Option Int} (h : Φ (.lst ((cutI xs lo hi).map D.int))) : SlS K (rSlU K) (.fl xs) lo hi Φ := fun M W H vx st rx Q q => by
  cases rx with
  | fl ha =>
    refine .inl ⟨_, _, rfl, ha.sql, fun p hp => ?_⟩
    rw [cutV_ints]
    exact q _ _ _ (mk_fr st hp) (mk_lst st (RepL.ofInts _) hp) h
theorem take_all {α : Type} (xs : List α) : (xs.drop 0).take (xs.length - 0) = xs := by simp
theorem ss_tup {xs : List D} {lo hi : Option Int} (h : Φ (.tup (cutD xs lo hi))) : SlS K (rSlU K) (.tup xs) lo hi Φ := fun M W H vx st rx Q q => by
  cases rx with
  | tup ha n r =>
    refine .inr ⟨_, _, rfl, .inl (.inl ha), fun e => ?_, fun _ p hp => q _ _ _ (mk_fr st hp) (mk_tup st (r.cut lo hi) hp) h⟩
    rw [r.length] at e
    have e2 : cutD xs lo hi = xs := by
      unfold cutD
      rw [e.1, e.2]
      exact take_all xs
    rw [e2] at h
    exact q _ H _ Fr.refl (.tup ha n r) h
end
end Z

/-! Zb: built-in functions, dicts, lists of one's own, comprehensions, texts, promises by data. -/
namespace Z
open PySem PySem.Spec PyProof.Rows L2
section
variable {K : PySem.W.Frag} {M W : AS} {H H' : Hp} {Φ : D → Prop}
/-! ### len, list, tuple, sorted, max, min, sum, all, int, abs, isinstance -/
def rLenU (K : PySem.W.Frag) : List V → Hp → VK → Prop := fun xs H Q => (fun xs H Q => ∃ p ys, xs = [V.ref p] ∧ (SqL K H p ys ∨ SqT K H p ys) ∧ Q (V.int ys.length) H) xs H Q ∨ ((fun xs H Q => ∃ z, xs = [V.str z] ∧ z.length ≤ sizeLine ∧ Q (V.int z.length) H) xs H Q ∨ rLenDR xs H Q)
theorem call_lenU {X : Cx} : CallR X (.builtin "len") (rLenU X.K) := CallR.or call_len_seq (CallR.or call_len_str call_lenDR)
def lenD : D → Option Nat
  | .tup xs => some xs.length
  | .lst xs => some xs.length
  | .fl xs => some xs.length
  | .dic xs => some xs.length
  | _ => none
theorem cs_len {d : D} {n : Nat} (e : lenD d = some n) (h : Φ (.int (n : Int))) : CbS K (rLenU K) [.dat d] Φ := fun M W H vs st r Q q => by
  cases r with
  | dat r1 r2 =>
    cases r2
    cases r1 with
    | tup ha n r => cases e; exact .inl ⟨_, _, rfl, .inr (.inl (.inl ha)), by rw [r.length]; exact q _ H _ Fr.refl (.int _) h⟩
    | lst ha n r => cases e; exact .inl ⟨_, _, rfl, .inl (.inl (.inl ha)), by rw [r.length]; exact q _ H _ Fr.refl (.int _) h⟩
    | fl ha => cases e; exact .inl ⟨_, _, rfl, .inl ha.sql, by rw [List.length_map]; exact q _ H _ Fr.refl (.int _) h⟩
    | dic ha n r => cases e; exact .inr (.inr ⟨_, _, rfl, ha, by rw [r.length]; exact q _ H _ Fr.refl (.int _) h⟩)
    | _ => cases e
theorem cs_lenS {z : Str} (hz : z.length ≤ 100000) (h : Φ (.int (z.length : Int))) : CbS K (rLenU K) [.dat (.str z)] Φ := fun M W H vs st r Q q => by
  cases r with
  | dat r1 r2 =>
    cases r2; cases r1
    exact .inr (.inl ⟨z, rfl, sz100 hz, q _ H _ Fr.refl (.int _) h⟩)
def kD : Key → D
  | .inl i => .int i
  | .inr s => .str s
theorem RepK.keysD : ∀ {vs : List (Key × V)} {xs : List (Key × D)}, RepK K M H vs xs → RepL K M H (vs.map fun kv => kV kv.1) (xs.map fun kv => kD kv.1)
  | _, _, .nil => .nil
  | _, _, .cons (k := k) _ r => by
    refine .cons ?_ (RepK.keysD r)
    cases k with
    | inl i => exact .int i
    | inr s => exact .str s
theorem RepK.valsD : ∀ {vs : List (Key × V)} {xs : List (Key × D)}, RepK K M H vs xs → RepL K M H (vs.map (·.2)) (xs.map (·.2))
  | _, _, .nil => .nil
  | _, _, .cons h r => .cons h (RepK.valsD r)
def rListU (K : PySem.W.Frag) : List V → Hp → VK → Prop := fun xs H Q => (fun xs H Q => ∃ p ys, xs = [V.ref p] ∧ (SqL K H p ys ∨ SqT K H p ys) ∧ ∀ l, H l = none → Q (V.ref l) (upd H l (.lst ys))) xs H Q ∨
  (fun xs H Q => ∃ (a : Addr) (kvs : List (Key × V)), xs = [V.ref a] ∧ Rd H a (.dK kvs) ∧ ∀ p, H p = none → Q (V.ref p) (upd H p (.lst (kvs.map fun kv => kV kv.1)))) xs H Q
theorem call_listU {X : Cx} (hc : X.calm = true) : CallR X (.type "list") (rListU X.K) := CallR.or call_list_of (call_listD hc)
theorem cs_list_tup {xs : List D} (h : Φ (.lst xs)) : CbS K (rListU K) [.dat (.tup xs)] Φ := fun M W H vs st r Q q => by
  cases r with
  | dat r1 r2 =>
    cases r2
    cases r1 with
    | tup ha n r => exact .inl ⟨_, _, rfl, .inr (.inl (.inl ha)), fun l hl => q _ _ _ (mk_fr st hl) (mk_lst st r hl) h⟩
theorem cs_list_lst {xs : List D} (h : Φ (.lst xs)) : CbS K (rListU K) [.dat (.lst xs)] Φ := fun M W H vs st r Q q => by
  cases r with
  | dat r1 r2 =>
    cases r2
    cases r1 with
    | lst ha n r => exact .inl ⟨_, _, rfl, .inl (.inl (.inl ha)), fun l hl => q _ _ _ (mk_fr st hl) (mk_lst st r hl) h⟩
theorem cs_list_dic {xs : List (Key × D)} (h : Φ (.lst (xs.map fun kv => kD kv.1))) : CbS K (rListU K) [.dat (.dic xs)] Φ := fun M W H vs st r Q q => by
  cases r with
  | dat r1 r2 =>
    cases r2
    cases r1 with
    | dic ha n r => exact .inr ⟨_, _, rfl, ha, fun l hl => q _ _ _ (mk_fr st hl) (mk_lst st r.keysD hl) h⟩
def rTupleU (K : PySem.W.Frag) : List V → Hp → VK → Prop := fun xs H Q => ∃ p ys, xs = [V.ref p] ∧ ((SqL K H p ys ∧ ∀ l, H l = none → Q (V.ref l) (upd H l (.tup ys))) ∨ (SqT K H p ys ∧ Q (V.ref p) H))
theorem call_tupleU {X : Cx} : CallR X (.type "tuple") (rTupleU X.K) := call_tuple_of
theorem cs_tuple_lst {xs : List D} (h : Φ (.tup xs)) : CbS K (rTupleU K) [.dat (.lst xs)] Φ := fun M W H vs st r Q q => by
  cases r with
  | dat r1 r2 =>
    cases r2
    cases r1 with
    | lst ha n r => exact ⟨_, _, rfl, .inl ⟨.inl (.inl ha), fun l hl => q _ _ _ (mk_fr st hl) (mk_tup st r hl) h⟩⟩
theorem cs_sortedS {ns : List Str} (hl : ns.length < 64) (h : ∀ ys : List Str, ys.Perm ns → sortedS ys = true → Φ (.lst (ys.map D.str))) : CbS K (rSortedS K) [.dat (.lst (ns.map D.str))] Φ := fun M W H vs st r Q q => by
  cases r with
  | dat r1 r2 =>
    cases r2
    cases r1 with
    | lst ha n r =>
      have e := r.strs
      subst e
      exact ⟨_, ns, rfl, .inl (.inl ha), hl, fun ys p hp hs hn => q _ _ _ (mk_fr st hn) (mk_lst st (RepL.ofStrs ys) hn) (h ys hp hs)⟩
def rMaxU (K : PySem.W.Frag) : List V → Hp → VK → Prop := fun xs H Q => rMax K xs H Q ∨ (fun xs H Q => ∃ i j, xs = [V.int i, V.int j] ∧ Q (V.int (if j > i then j else i)) H) xs H Q
theorem call_maxU {X : Cx} (hc : X.calm = true) : CallR X (.builtin "max") (rMaxU X.K) := CallR.or (cr_max hc) (call_max2 hc)
theorem cs_max2 {i j : Int} (h : Φ (.int (max i j))) : CbS K (rMaxU K) [.dat (.int i), .dat (.int j)] Φ := fun M W H vs st r Q q => by
  cases r with
  | dat r1 r2 =>
    cases r2 with
    | dat r3 r4 =>
      cases r4; cases r1; cases r3
      refine .inr ⟨i, j, rfl, ?_⟩
      have e : (if j > i then j else i) = max i j := by split <;> omega
      rw [e]
      exact q _ H _ Fr.refl (.int _) h
theorem cs_max {ns : List Int} (hl : 0 < ns.length) (h : ∀ m, m ∈ ns → (∀ y, y ∈ ns → y ≤ m) → Φ (.int m)) : CbS K (rMaxU K) [.dat (.lst (ns.map D.int))] Φ := fun M W H vs st r Q q => by
  cases r with
  | dat r1 r2 =>
    cases r2
    cases r1 with
    | lst ha n r =>
      have e := r.ints
      subst e
      exact .inl ⟨_, ns, rfl, .inl (.inl ha), hl, fun m h1 h2 => q _ H _ Fr.refl (.int _) (h m h1 h2)⟩
def rMinU (K : PySem.W.Frag) : List V → Hp → VK → Prop := fun xs H Q => rMin K xs H Q ∨ (fun xs H Q => ∃ i j, xs = [V.int i, V.int j] ∧ Q (V.int (if j < i then j else i)) H) xs H Q
theorem call_minU {X : Cx} (hc : X.calm = true) : CallR X (.builtin "min") (rMinU X.K) := CallR.or (cr_min hc) (call_min2 hc)
theorem cs_min2 {i j : Int} (h : Φ (.int (min i j))) : CbS K (rMinU K) [.dat (.int i), .dat (.int j)] Φ := fun M W H vs st r Q q => by
  cases r with
  | dat r1 r2 =>
    cases r2 with
    | dat r3 r4 =>
      cases r4; cases r1; cases r3
      refine .inr ⟨i, j, rfl, ?_⟩
      have e : (if j < i then j else i) = min i j := by split <;> omega
      rw [e]
      exact q _ H _ Fr.refl (.int _) h
theorem cs_sum {ns : List Int} (h : Φ (.int ns.sum)) : CbS K (rSum K) [.dat (.lst (ns.map D.int))] Φ := fun M W H vs st r Q q => by
  cases r with
  | dat r1 r2 =>
    cases r2
    cases r1 with
    | lst ha n r =>
      have e := r.ints
      subst e
      exact ⟨_, ns, rfl, .inl (.inl ha), q _ H _ Fr.refl (.int _) h⟩
theorem cs_all {bs : List Bool} (h : Φ (.bl (bs.all id))) : CbS K (rAll K) [.dat (.lst (bs.map D.bl))] Φ := fun M W H vs st r Q q => by
  cases r with
  | dat r1 r2 =>
    cases r2
    cases r1 with
    | lst ha n r =>
      have e := r.bools
      subst e
      exact ⟨_, bs, rfl, .inl (.inl ha), q _ H _ Fr.refl (.bl _) h⟩
abbrev rIntU : List V → Hp → VK → Prop := fun xs H Q => (∃ i, xs = [V.int i] ∧ Q (V.int i) H) ∨ ∃ k, xs = [V.bl k] ∧ Q (V.int (if k then 1 else 0)) H
theorem cs_int {i : Int} (h : Φ (.int i)) : CbS K rIntU [.dat (.int i)] Φ := fun M W H vs st r Q q => by
  cases r with
  | dat r1 r2 =>
    cases r2; cases r1
    exact .inl ⟨i, rfl, q _ H _ Fr.refl (.int _) h⟩
abbrev rAbsU : List V → Hp → VK → Prop := fun xs H Q => ∃ i, xs = [V.int i] ∧ Q (V.int (if i < 0 then -i else i)) H
theorem cs_abs {i : Int} (h : Φ (.int (if i < 0 then -i else i))) : CbS K rAbsU [.dat (.int i)] Φ := fun M W H vs st r Q q => by
  cases r with
  | dat r1 r2 =>
    cases r2; cases r1
    exact ⟨i, rfl, q _ H _ Fr.refl (.int _) h⟩
/-- isinstance -/
def tyD : D → Option String
  | .non => some "NoneType"
  | .bl _ => some "bool"
  | .int _ => some "int"
  | .str _ => some "str"
  | .tup _ => some "tuple"
  | .lst _ => some "list"
  | .dic _ => some "dict"
  | _ => none
theorem rep_ty {v : V} {d : D} {T : String} (r : Rep K M H v d) (e : tyD d = some T) : TyX K H v (.type T) := by
  cases r with
  | non => cases e; exact .base .non
  | bl b => cases e; exact .base (.bl b)
  | int i => cases e; exact .base (.int i)
  | str s => cases e; exact .base (.str s)
  | tup ha n r => cases e; exact .base (.tup ha)
  | lst ha n r => cases e; exact .base (.lst ha)
  | dic ha n r =>
    cases e
    rcases ha with ha | ⟨o, ha⟩
    · exact .base (.dK ha)
    · exact .fDict ha
  | _ => cases e
theorem cs_isi {d : D} {T c : String} {b : Bool} (e : tyD d = some T) (k : kitB T c = some b) (h : Φ (.bl b)) : CbS K (rIsi K) [.dat d, .dat (.clv (.ty c))] Φ := fun M W H vs st r Q q => by
  cases r with
  | dat r1 r2 =>
    cases r2 with
    | dat r3 r4 =>
      cases r4; cases r3
      exact ⟨_, _, _, _, b, rfl, .ty c, rep_ty r1 e, kit_ty k, q _ H _ Fr.refl (.bl _) h⟩
def rIsC (C : Addr) : List V → Hp → VK → Prop := fun xs H Q => ∃ a dx fs, xs = [V.ref a, V.ref C] ∧ H a = some (.ins C dx fs) ∧ Q (V.bl true) H
theorem cs_isC {C : Addr} {fs : List (Str × D)} (h : Φ (.bl true)) : CbS K (rIsC C) [.dat (.ins C fs), .dat (.clv (.ref C))] Φ := fun M W H vs st r Q q => by
  cases r with
  | dat r1 r2 =>
    cases r2 with
    | dat r3 r4 =>
      cases r4; cases r3
      cases r1 with
      | ins ha n r => exact ⟨_, _, _, rfl, ha, q _ H _ Fr.refl (.bl _) h⟩
end
/-! ### dicts -/
section
variable {K : PySem.W.Frag} {b : Bool} {δ : Sl} {Φ Ψ : D → Prop} {ta tb tc te : TE} {t u : TT} {A : Act} {M M' M2 : AS} {H H' H2 : Hp} {σ : L2.St} {o : OC} {ts tu tw : TS}
theorem we_dget (h : WE K b ta δ fun x => ∃ kvs, x = .dic kvs ∧ WE K b tb δ fun y => ∃ (k : Key) (d : D), y = kD k ∧ valD kvs k = some d ∧ Φ d) : WE K b (tDGet ta tb) δ Φ := fun A M H σ S Q q =>
  h A M H σ S _ fun vx H1 x f1 r1 ⟨kvs, e, h2⟩ => h2 A M H1 σ (S.step f1) _ fun vy H2 y f2 r2 ⟨k, d, ey, ed, p⟩ => by
    subst e ey
    have r1' := r1.fr f2 S.wy
    cases r1' with
    | dic ha n r =>
      have rv := r.val k
      rw [ed] at rv
      cases hv : valV _ k with
      | none => rw [hv] at rv; cases rv
      | some v =>
        rw [hv] at rv
        cases rv with
        | some rv =>
          refine ⟨_, v, rfl, .inl ⟨_, k, ha, ?_, hv.symm⟩, q v _ d (f1.trans f2) rv p⟩
          cases k with
          | inl i => cases r2; rfl
          | inr s => cases r2; rfl
theorem we_dget2 (h : WE K b ta δ fun x => ∃ kvs, x = .dic kvs ∧ WE K b tb δ fun y => ∃ (k : Key), y = kD k ∧ WE K b tc δ fun z => Φ ((valD kvs k).getD z)) : WE K b (tDGet2 ta tb tc) δ Φ := fun A M H σ S Q q =>
  h A M H σ S _ fun vx H1 x f1 r1 ⟨kvs, e, h2⟩ => by
    subst e
    cases r1 with
    | dic ha n r =>
      refine ⟨_, rfl, .inl ⟨_, ha⟩, h2 A M H1 σ (S.step f1) _ fun vy H2 y f2 r2 ⟨k, ey, h3⟩ => h3 A M H2 σ ((S.step f1).step f2) _ fun vz H3 z f3 r3 p => ?_⟩
      subst ey
      have r1' := (Rep.fr (.dic ha n r) f2 S.wy).fr f3 S.wy
      cases r1' with
      | dic ha n r =>
        have rv := r.val k
        refine ⟨_, .inl ⟨_, k, ha, ?_, rfl⟩, ?_⟩
        · cases k with
          | inl i => cases r2; rfl
          | inr s => cases r2; rfl
        · cases hv : valV _ k with
          | none =>
            rw [hv] at rv
            cases hd : valD kvs k with
            | none => rw [hd] at p; exact q vz _ z ((f1.trans f2).trans f3) r3 p
            | some d => rw [hd] at rv; cases rv
          | some v =>
            rw [hv] at rv
            cases hd : valD kvs k with
            | none => rw [hd] at rv; cases rv
            | some d =>
              rw [hd] at rv p
              cases rv with
              | some rv => exact q v _ d ((f1.trans f2).trans f3) rv p
/-! ### slots moved -/
theorem Sat.re {δ' : Sl} {σ' : L2.St} (S : Sat K A M H σ δ) (π : Nat → Nat) (h : ∀ (i : Nat) (av : AV), δ'[i]? = some (some av) → δ[π i]? = some (some av) ∧ σ'[i]? = σ[π i]?)
    (inj : ∀ (i j : Nat) (av bv : AV), δ'[i]? = some (some av) → δ'[j]? = some (some bv) → isOwn av = true → isOwn bv = true → π i = π j → i = j) (hl : σ'.length = δ'.length) : Sat K A M H σ' δ' where
  slot := fun i av e => by
    obtain ⟨e1, e2⟩ := h i av e
    obtain ⟨v, h1, h2⟩ := S.slot _ av e1
    exact ⟨v, by rw [e2, h1], h2⟩
  dis := fun i j av bv a hne ei ej oi oj si sj => by
    obtain ⟨e1, e2⟩ := h i av ei
    obtain ⟨e3, e4⟩ := h j bv ej
    rw [e2] at si
    rw [e4] at sj
    exact S.dis (π i) (π j) av bv a (fun z => hne (inj i j av bv ei ej oi oj z)) e1 e3 oi oj si sj
  len := hl
  trk := S.trk
  m0 := S.m0
  w0 := S.w0
  g0 := S.g0
  wel := S.wel
  welG := S.welG
  fr := S.fr
/-- one more value, beside the slots -/
theorem Sat.push (S : Sat K A M H σ δ) {v : V} {d : D} (r : Rep K M H v d) : Sat K A M H (σ ++ [some v]) (δ ++ [some (.dat d)]) where
  slot := fun i av e => by
    by_cases hi : i < δ.length
    · rw [List.getElem?_append_left hi] at e
      obtain ⟨v', h1, h2⟩ := S.slot i av e
      exact ⟨v', by rw [List.getElem?_append_left (by rw [S.len]; exact hi)]; exact h1, h2⟩
    · rw [List.getElem?_append_right (by omega)] at e
      have hz : i - δ.length = 0 := by
        have := (List.getElem?_eq_some_iff.mp e).1
        simp at this; omega
      rw [hz] at e
      cases e
      refine ⟨v, ?_, r⟩
      rw [List.getElem?_append_right (by rw [S.len]; omega), S.len, hz]
      rfl
  dis := fun i j av bv a hne ei ej oi oj si sj => by
    have key : ∀ (n : Nat) (cv : AV), (δ ++ [some (.dat d)])[n]? = some (some cv) → isOwn cv = true → n < δ.length := fun n cv en on => by
      by_cases hi : n < δ.length
      · exact hi
      · exfalso
        rw [List.getElem?_append_right (by omega)] at en
        have hz : n - δ.length = 0 := by
          have := (List.getElem?_eq_some_iff.mp en).1
          simp at this; omega
        rw [hz] at en
        cases en
        cases on
    have hi := key i av ei oi
    have hj := key j bv ej oj
    rw [List.getElem?_append_left hi] at ei
    rw [List.getElem?_append_left hj] at ej
    rw [List.getElem?_append_left (by rw [S.len]; exact hi)] at si
    rw [List.getElem?_append_left (by rw [S.len]; exact hj)] at sj
    exact S.dis i j av bv a hne ei ej oi oj si sj
  len := by rw [List.length_append, List.length_append, S.len]; rfl
  trk := S.trk
  m0 := S.m0
  w0 := S.w0
  g0 := S.g0
  wel := S.wel
  welG := S.welG
  fr := S.fr
def grow (M : AS) (p : Addr) : AS := fun a => M a ∨ a = p
/-- a new object of one's own, beside the slots: of no items -/
theorem Sat.pushNew (S : Sat K A M H σ δ) {p : Addr} {u : HO} {av : AV} (hp : H p = none) (ho : isOwn av = true) (hA : ∀ M' H', M' p → A.G p = none → H' p = some u → RepA K A M' H' (.ref p) av) :
    Sat K A (grow M p) (upd H p u) (σ ++ [some (.ref p)]) (δ ++ [some av]) := by
  have st := S.st0 (b := true)
  have f : Fr A.W H (upd H p u) := mk_fr st hp
  have gp : A.G p = none := S.fr.back S.welG hp
  have mv : Mv M H (grow M p) (upd H p u) := fun a n h => ⟨Kp.of fun o e => by rw [upd_ne (ne_of_none e hp)]; exact e, fun m => m.elim n fun e => h (by rw [e]; exact hp)⟩
  have up : ∀ (v : V) (av : AV), RepA K A M H v av → RepA K A (grow M p) (upd H p u) v av := fun v av h => by
    cases av with
    | dat d => exact Rep.mv mv h
    | own xs =>
      obtain ⟨a, vs, e, m, g, q, r⟩ := h
      exact ⟨a, vs, e, .inl m, g, by rw [upd_ne (ne_of_none q hp)]; exact q, RepL.mv mv r⟩
    | ownD xs =>
      obtain ⟨a, vs, e, m, g, q, r⟩ := h
      exact ⟨a, vs, e, .inl m, g, by rw [upd_ne (ne_of_none q hp)]; exact q, RepK.mv mv r⟩
    | well => exact h
  refine ⟨fun i bv e => ?_, fun i j bv cv a hne ei ej oi oj si sj => ?_, by rw [List.length_append, List.length_append, S.len]; rfl, fun a m => ?_, fun a m => .inl (S.m0 a m), S.w0, S.g0, fun a w => f.wl a w (S.wel a w), S.welG, S.fr.trans f⟩
  · by_cases hi : i < δ.length
    · rw [List.getElem?_append_left hi] at e
      obtain ⟨v', h1, h2⟩ := S.slot i bv e
      exact ⟨v', by rw [List.getElem?_append_left (by rw [S.len]; exact hi)]; exact h1, up _ _ h2⟩
    · rw [List.getElem?_append_right (by omega)] at e
      have hz : i - δ.length = 0 := by
        have := (List.getElem?_eq_some_iff.mp e).1
        simp at this; omega
      rw [hz] at e
      cases e
      refine ⟨.ref p, ?_, hA _ _ (.inr rfl) gp upd_same⟩
      rw [List.getElem?_append_right (by rw [S.len]; omega), S.len, hz]
      rfl
  · have oldp : ∀ (n : Nat) (bv : AV), n < δ.length → (δ ++ [some av])[n]? = some (some bv) → isOwn bv = true → (σ ++ [some (.ref p)])[n]? = some (some (.ref p)) → False := fun n bv hn e ob sn => by
      rw [List.getElem?_append_left hn] at e
      rw [List.getElem?_append_left (by rw [S.len]; exact hn)] at sn
      obtain ⟨v', h1, h2⟩ := S.slot n bv e
      rw [sn] at h1
      cases h1
      cases bv with
      | dat d => cases ob
      | own xs =>
        obtain ⟨a', vs, e', m, _⟩ := h2
        cases e'
        exact S.trk p m hp
      | ownD xs =>
        obtain ⟨a', vs, e', m, _⟩ := h2
        cases e'
        exact S.trk p m hp
      | well => cases ob
    have last : ∀ (n : Nat) (bv : AV), ¬ n < δ.length → (δ ++ [some av])[n]? = some (some bv) → n = δ.length := fun n bv hn e => by
      have := (List.getElem?_eq_some_iff.mp e).1
      simp at this; omega
    have atl : (σ ++ [some (.ref p)])[δ.length]? = some (some (.ref p)) := by
      rw [List.getElem?_append_right (by rw [S.len]; exact Nat.le_refl _), S.len, Nat.sub_self]
      rfl
    by_cases hi : i < δ.length
    · by_cases hj : j < δ.length
      · rw [List.getElem?_append_left hi] at ei
        rw [List.getElem?_append_left hj] at ej
        rw [List.getElem?_append_left (by rw [S.len]; exact hi)] at si
        rw [List.getElem?_append_left (by rw [S.len]; exact hj)] at sj
        exact S.dis i j bv cv a hne ei ej oi oj si sj
      · have e2 := last j cv hj ej
        rw [e2, atl] at sj
        cases sj
        exact oldp i bv hi ei oi si
    · have e1 := last i bv hi ei
      rw [e1, atl] at si
      cases si
      by_cases hj : j < δ.length
      · exact oldp j cv hj ej oj sj
      · exact hne (e1.trans (last j cv hj ej).symm)
  · rcases m with m | e
    · exact f.ex S.wel (S.trk a m)
    · rw [e, upd_same]; intro z; cases z
theorem Ext.new {p : Addr} {u : HO} (hp : H p = none) : Ext M H (grow M p) (upd H p u) := ⟨fun a o n h => by rw [upd_ne (ne_of_none h hp)]; exact h, fun a m => m.elim .inl fun e => .inr (by rw [e]; exact hp)⟩
/-- values made beside the slots, some of them one's own -/
def WP (K : PySem.W.Frag) (ta : TA) (δ : Sl) (Φ : List AV → Prop) : Prop := ∀ (A : Act) (M : AS) (H : Hp) (σ : L2.St) (τ : L2.St) (ε : Sl), σ.length = δ.length → Sat K A M H (σ ++ τ) (δ ++ ε) → ∀ Q : List V → Hp → Prop,
  (∀ vs M' H' as, Ext M H M' H' → Sat K A M' H' (σ ++ (τ ++ vs.map some)) (δ ++ (ε ++ as.map some)) → Φ as → Q vs H') → ta σ H Q
theorem Sat.pre {τ : L2.St} {ε : Sl} (hl : σ.length = δ.length) (S : Sat K A M H (σ ++ τ) (δ ++ ε)) : Sat K A M H σ δ :=
  S.re id (fun i av e => by
    have hi := (List.getElem?_eq_some_iff.mp e).1
    exact ⟨by rw [id, List.getElem?_append_left hi]; exact e, by rw [id, List.getElem?_append_left (by omega)]⟩) (fun i j _ _ _ _ _ _ z => z) hl
theorem wp_nil {Φ : List AV → Prop} (h : Φ []) : WP K tNil δ Φ := fun A M H σ τ ε hl S Q q => q [] M H [] Ext.refl (by simpa using S) h
theorem wp_dat {Φ : List AV → Prop} {tr : TA} (h : WE K true ta δ fun x => WP K tr δ fun as => Φ (.dat x :: as)) : WP K (tCons ta tr) δ Φ := fun A M H σ τ ε hl S Q q =>
  h A M H σ (S.pre hl) _ fun v H1 d f1 r1 h2 => by
    have S1 := (S.step f1).push r1
    rw [List.append_assoc, List.append_assoc] at S1
    refine h2 A M H1 σ _ _ hl S1 _ fun vs M' H' as e S2 p => q (v :: vs) M' H' (.dat d :: as) (((S.pre hl).ext f1).trans e) ?_ p
    simpa using S2
theorem wp_newL {Φ : List AV → Prop} {tr : TA} (h : WP K tr δ fun as => Φ (.own [] :: as)) : WP K (tCons (tLst tNil) tr) δ Φ := fun A M H σ τ ε hl S Q q => by
  refine ⟨Nat.zero_le _, fun p hp => ?_⟩
  have S1 := S.pushNew (av := .own []) (u := .lst []) hp rfl fun M' H' m g e => ⟨p, [], rfl, m, g, e, .nil⟩
  rw [List.append_assoc, List.append_assoc] at S1
  refine h A _ _ σ _ _ hl S1 _ fun vs M' H' as e S2 pp => q (.ref p :: vs) M' H' (.own [] :: as) ((Ext.new hp).trans e) ?_ pp
  simpa using S2
theorem wp_newD {Φ : List AV → Prop} {tr : TA} (h : WP K tr δ fun as => Φ (.ownD [] :: as)) : WP K (tCons tDNewK tr) δ Φ := fun A M H σ τ ε hl S Q q => by
  refine fun p hp => ?_
  have S1 := S.pushNew (av := .ownD []) (u := .dK []) hp rfl fun M' H' m g e => ⟨p, [], rfl, m, g, e, .nil⟩
  rw [List.append_assoc, List.append_assoc] at S1
  refine h A _ _ σ _ _ hl S1 _ fun vs M' H' as e S2 pp => q (.ref p :: vs) M' H' (.ownD [] :: as) ((Ext.new hp).trans e) ?_ pp
  simpa using S2
/-- a value beside the slots is put into a slot -/
theorem Sat.move {x : V} {av : AV} {τ : L2.St} {ε : Sl} (hl : σ.length = δ.length) (i : Nat) (S : Sat K A M H (σ ++ (some x :: τ)) (δ ++ (some av :: ε))) : Sat K A M H (σ.set i (some x) ++ τ) (δ.set i (some av) ++ ε) := by
  have hm : σ.length + 1 + τ.length = δ.length + 1 + ε.length := by
    have := S.len
    simp at this
    omega
  refine S.re (fun n => if n = i ∧ i < δ.length then δ.length else if n < δ.length then n else n + 1) (fun n bv e => ?_) (fun n m bv cv en em _ _ z => ?_) (by simp; omega)
  · by_cases hn : n < δ.length
    · rw [List.getElem?_append_left (by simpa using hn)] at e
      by_cases hi : n = i
      · subst hi
        rw [List.getElem?_set_self hn] at e
        cases e
        rw [if_pos ⟨rfl, hn⟩]
        refine ⟨by rw [List.getElem?_append_right (Nat.le_refl _), Nat.sub_self]; rfl, ?_⟩
        rw [List.getElem?_append_left (by simpa [hl] using hn), List.getElem?_set_self (by omega), List.getElem?_append_right (by omega), hl, Nat.sub_self]
        rfl
      · rw [List.getElem?_set_ne (Ne.symm hi)] at e
        rw [if_neg (fun z => hi z.1), if_pos hn]
        refine ⟨by rw [List.getElem?_append_left hn]; exact e, ?_⟩
        rw [List.getElem?_append_left (by simpa [hl] using hn), List.getElem?_set_ne (Ne.symm hi), List.getElem?_append_left (by omega)]
    · rw [List.getElem?_append_right (by simpa using hn)] at e
      rw [if_neg (fun z => by omega), if_neg hn]
      have e1 : n + 1 - δ.length = (n - δ.length) + 1 := by omega
      refine ⟨?_, ?_⟩
      · rw [List.getElem?_append_right (by omega), e1, List.getElem?_cons_succ]
        simpa using e
      · rw [List.getElem?_append_right (by simp; omega), List.getElem?_append_right (by omega), hl, e1, List.getElem?_cons_succ]
        simp [hl]
  · have z' : (if n = i ∧ i < δ.length then δ.length else if n < δ.length then n else n + 1) = (if m = i ∧ i < δ.length then δ.length else if m < δ.length then m else m + 1) := z
    repeat' split at z'
    all_goals omega
theorem ws_par {i j : Nat} {tr : TA} (h : WP K tr δ fun as => ∃ a c, as = [a, c] ∧ o.nx ((δ.set i (some a)).set j (some c))) : WS K (tPar i j tr) δ o := fun A M H σ S De n b c r =>
  h A M H σ [] [] S.len (by simpa using S) _ fun vs M' H' as e S2 ⟨a, c2, ea, p⟩ => by
    subst ea
    have lv : vs.length = 2 := by
      have := S2.len
      simp [S.len] at this
      exact this
    match vs, lv with
    | [v, w], _ =>
      have S3 := Sat.move S.len i (by simpa using S2)
      have S4 := Sat.move (σ := σ.set i (some v)) (δ := δ.set i (some a)) (by simp [S.len]) j (τ := []) (ε := []) (by simpa using S3)
      exact ⟨v, w, rfl, n M' H' _ _ e (by simpa using S4) p⟩
theorem ws_par3 {i j l : Nat} {tr : TA} (h : WP K tr δ fun as => ∃ a c d, as = [a, c, d] ∧ o.nx (((δ.set i (some a)).set j (some c)).set l (some d))) : WS K (tPar3 i j l tr) δ o := fun A M H σ S De n b c r =>
  h A M H σ [] [] S.len (by simpa using S) _ fun vs M' H' as e S2 ⟨a, c2, d2, ea, p⟩ => by
    subst ea
    have lv : vs.length = 3 := by
      have := S2.len
      simp [S.len] at this
      exact this
    match vs, lv with
    | [v, w, u], _ =>
      have S3 := Sat.move S.len i (by simpa using S2)
      have S4 := Sat.move (σ := σ.set i (some v)) (δ := δ.set i (some a)) (by simp [S.len]) j (by simpa using S3)
      have S5 := Sat.move (σ := (σ.set i (some v)).set j (some w)) (δ := (δ.set i (some a)).set j (some c2)) (by simp [S.len]) l (τ := []) (ε := []) (by simpa using S4)
      exact ⟨v, w, u, rfl, n M' H' _ _ e (by simpa using S5) p⟩
theorem ws_newL {i : Nat} (h : o.nx (δ.set i (some (.own [])))) : WS K (tAsg (tLst tNil) (gName i)) δ o := fun A M H σ S De n b c r => by
  refine ⟨Nat.zero_le _, fun p hp => ?_⟩
  have S1 := S.pushNew (av := .own []) (u := .lst []) hp rfl fun M' H' m g e => ⟨p, [], rfl, m, g, e, .nil⟩
  have S3 := Sat.move S.len i (τ := []) (ε := []) S1
  exact n _ _ _ _ (Ext.new hp) (by simpa using S3) h
theorem ws_newD {i : Nat} (h : o.nx (δ.set i (some (.ownD [])))) : WS K (tAsg tDNewK (gName i)) δ o := fun A M H σ S De n b c r => by
  refine fun p hp => ?_
  have S1 := S.pushNew (av := .ownD []) (u := .dK []) hp rfl fun M' H' m g e => ⟨p, [], rfl, m, g, e, .nil⟩
  have S3 := Sat.move S.len i (τ := []) (ε := []) S1
  exact n _ _ _ _ (Ext.new hp) (by simpa using S3) h
/-! ### lists and dicts of one's own change -/
theorem Sat.own_upd {i : Nat} {av av' : AV} {p : Addr} {u : HO} (S : Sat K A M H σ δ) (e : δ[i]? = some (some av)) (ho : isOwn av = true) (ho' : isOwn av' = true) (hs : σ[i]? = some (some (.ref p))) (hm : M p) (hg : A.G p = none)
    (hA : RepA K A M (upd H p u) (.ref p) av') : Sat K A M (upd H p u) σ (δ.set i (some av')) ∧ Ext M H M (upd H p u) := by
  have hw : ¬ A.W p := fun w => S.g0 p (S.w0 p w) hg
  have mv : Mv M H M (upd H p u) := fun a n h => ⟨Kp.of fun o e => by rw [upd_ne (fun z : a = p => n (by rw [z]; exact hm))]; exact e, n⟩
  refine ⟨⟨fun j bv ej => ?_, fun j k bv cv a hne ej ek oj ok sj sk => ?_, by rw [List.length_set, S.len], fun a m => ?_, S.m0, S.w0, S.g0, fun a w => ?_, S.welG, ?_⟩, ⟨fun a o n h => by rw [upd_ne (fun z : a = p => n (by rw [z]; exact hm))]; exact h, fun a m => .inl m⟩⟩
  · by_cases hj : j = i
    · subst hj
      have hl : j < δ.length := (List.getElem?_eq_some_iff.mp e).1
      rw [List.getElem?_set_self hl] at ej
      cases ej
      exact ⟨_, hs, hA⟩
    · rw [List.getElem?_set_ne (Ne.symm hj)] at ej
      obtain ⟨v, h1, h2⟩ := S.slot j bv ej
      refine ⟨v, h1, ?_⟩
      have ne : ∀ a, v = .ref a → isOwn bv = true → a ≠ p := fun a ea ob z => by
        rw [ea, z] at h1
        exact S.dis j i bv av p hj ej e ob ho h1 hs
      cases bv with
      | dat d => exact Rep.mv mv h2
      | own xs =>
        obtain ⟨a, vs, ea, m, g, q, r⟩ := h2
        exact ⟨a, vs, ea, m, g, by rw [upd_ne (ne a ea rfl)]; exact q, RepL.mv mv r⟩
      | ownD xs =>
        obtain ⟨a, vs, ea, m, g, q, r⟩ := h2
        exact ⟨a, vs, ea, m, g, by rw [upd_ne (ne a ea rfl)]; exact q, RepK.mv mv r⟩
      | well => exact h2
  · have back : ∀ (n : Nat) (bv : AV), (δ.set i (some av'))[n]? = some (some bv) → isOwn bv = true → ∃ cv, δ[n]? = some (some cv) ∧ isOwn cv = true := fun n bv en ob => by
      by_cases hn : n = i
      · subst hn
        exact ⟨av, e, ho⟩
      · rw [List.getElem?_set_ne (Ne.symm hn)] at en
        exact ⟨bv, en, ob⟩
    obtain ⟨b1, e1, o1⟩ := back j bv ej oj
    obtain ⟨b2, e2, o2⟩ := back k cv ek ok
    exact S.dis j k b1 b2 a hne e1 e2 o1 o2 sj sk
  · by_cases hp : a = p
    · rw [hp, upd_same]; intro z; cases z
    · rw [upd_ne hp]; exact S.trk a m
  · obtain ⟨x, y, z, q, r⟩ := S.wel a w
    exact ⟨x, y, z, by rw [upd_ne (fun q : a = p => hw (by rw [← q]; exact w))]; exact q, r⟩
  · exact S.fr.upd hg hw
/-- xs.append(e) -/
theorem ws_app {i : Nat} {xs : List D} (e : δ[i]? = some (some (.own xs))) (hz : xs.length < 100000) (h : WE K true te δ fun d => o.nx (δ.set i (some (.own (xs ++ [d]))))) :
    WS K (tDrop (tBM K "list" rAppend (tVar i) (tCons te tNil))) δ o := fun A M H σ S De n b c r => by
  obtain ⟨v, h1, a, vs, rfl, m, g, ha, rl⟩ := S.slot i _ e
  refine ⟨_, h1, .inl ⟨rfl, _, .inl (.inl ha)⟩, h A M H σ S _ fun w H1 d f1 r1 p => ?_⟩
  have S1 := S.step f1
  obtain ⟨v2, h2, a2, vs2, e2, m2, g2, ha2, rl2⟩ := S1.slot i _ e
  rw [h1] at h2
  cases h2
  cases e2
  refine ⟨a, vs2, w, rfl, rfl, ha2, by rw [rl2.length]; exact sz1000 hz, ?_⟩
  have mv : Mv M H1 M (upd H1 a (.lst (vs2 ++ [w]))) := fun b nb hb => ⟨Kp.of fun oo eo => by rw [upd_ne (fun z : b = a => nb (by rw [z]; exact m))]; exact eo, nb⟩
  obtain ⟨S2, e3⟩ := S1.own_upd (av' := .own (xs ++ [d])) (u := .lst (vs2 ++ [w])) e rfl rfl h1 m g2 ⟨a, _, rfl, m, g2, upd_same, (RepL.mv mv rl2).append (.cons (Rep.mv mv r1) .nil)⟩
  exact n M _ σ _ ((S.ext f1).trans e3) S2 p
def putD (kvs : List (Key × D)) (k : Key) (v : D) : List (Key × D) := if (kvs.any fun kv => decide (kv.1 = k)) = true then kvs.map (fun kv => if kv.1 = k then (kv.1, v) else kv) else kvs ++ [(k, v)]
theorem RepK.any : ∀ {vs : List (Key × V)} {xs : List (Key × D)} (k : Key), RepK K M H vs xs → (vs.any fun kv => decide (kv.1 = k)) = (xs.any fun kv => decide (kv.1 = k))
  | _, _, _, .nil => rfl
  | _, _, k, .cons _ r => by
    rw [List.any_cons, List.any_cons, RepK.any k r]
theorem RepK.app : ∀ {vs ws : List (Key × V)} {xs ys : List (Key × D)}, RepK K M H vs xs → RepK K M H ws ys → RepK K M H (vs ++ ws) (xs ++ ys)
  | _, _, _, _, .nil, s => s
  | _, _, _, _, .cons h r, s => .cons h (RepK.app r s)
theorem RepK.repl {k : Key} {v : V} {d : D} (h : Rep K M H v d) : ∀ {vs : List (Key × V)} {xs : List (Key × D)}, RepK K M H vs xs → RepK K M H (vs.map fun kv => if kv.1 = k then (kv.1, v) else kv) (xs.map fun kv => if kv.1 = k then (kv.1, d) else kv)
  | _, _, .nil => .nil
  | (k', v') :: _, _, .cons h' r => by
    rw [List.map_cons, List.map_cons]
    by_cases e : k' = k
    · rw [if_pos e, if_pos e]
      exact .cons h (RepK.repl h r)
    · rw [if_neg e, if_neg e]
      exact .cons h' (RepK.repl h r)
theorem RepK.put {vs : List (Key × V)} {xs : List (Key × D)} {k : Key} {v : V} {d : D} (r : RepK K M H vs xs) (h : Rep K M H v d) : RepK K M H (putK vs k v) (putD xs k d) := by
  unfold putK putD
  rw [r.any k]
  split
  · exact r.repl h
  · exact r.app (.cons h .nil)
/-- d[k] = v -/
theorem ws_dput {i : Nat} {kvs : List (Key × D)} (e : δ[i]? = some (some (.ownD kvs))) (hz : kvs.length < 100000) (h : WE K true te δ fun d => WE K false tb δ fun y => ∃ k : Key, y = kD k ∧ o.nx (δ.set i (some (.ownD (putD kvs k d))))) :
    WS K (sDPut (tVar i) tb te) δ o := fun A M H σ S De n b c r => by
  refine h A M H σ S _ fun w H1 d f1 r1 h2 => ?_
  have S1 := S.step f1
  obtain ⟨v2, h3, a, vs0, rfl, m0, g0, ha0, rl0⟩ := S1.slot i _ e
  refine ⟨_, h3, h2 A M H1 σ S1 _ fun y H2 dy f2 r2 ⟨k, ey, p⟩ => ?_⟩
  subst ey
  have S2 := S1.step f2
  obtain ⟨v4, h4, a2, vs, e4, m, g, ha, rl⟩ := S2.slot i _ e
  rw [h3] at h4
  cases h4
  cases e4
  have r1' := r1.fr f2 (fun a w => S.m0 a (S.w0 a w))
  have mv : Mv M H2 M (upd H2 a (.dK (putK vs k w))) := fun b nb hb => ⟨Kp.of fun oo eo => by rw [upd_ne (fun z : b = a => nb (by rw [z]; exact m))]; exact eo, nb⟩
  obtain ⟨S3, e3⟩ := S2.own_upd (av' := .ownD (putD kvs k d)) (u := .dK (putK vs k w)) e rfl rfl h3 m g ⟨a, _, rfl, m, g, upd_same, RepK.mv mv (rl.put r1')⟩
  refine ⟨a, _, rfl, .inl ⟨vs, k, ha, ?_, by rw [rl.length]; exact sz1000 hz, rfl⟩, n M _ σ _ (((S.ext f1).trans (S1.ext f2)).trans e3) S3 p⟩
  cases k with
  | inl i => cases r2; rfl
  | inr s => cases r2; rfl
end
end Z

/-! Zl: comprehensions, texts walked and joined, dicts walked, what a def promises by data. -/
namespace Z
open PySem PySem.Spec PyProof.Rows L2
section
variable {K : PySem.W.Frag} {b : Bool} {δ : Sl} {Φ Ψ : D → Prop} {ta tb tc te : TE} {t u : TT} {A : Act} {M M' M2 : AS} {H H' H2 : Hp} {σ : L2.St} {o : OC} {ts tu tw : TS}
/-! ### targets that write named slots alone -/
def Wr (g : TG) (ws : List Nat) : Prop := ∀ v σ H Q, g v σ H Q → g v σ H fun σ' H' => Q σ' H' ∧ H' = H ∧ σ'.length = σ.length ∧ ∀ j, j ∉ ws → σ'[j]? = σ[j]?
def Wrs (g : TGs) (ws : List Nat) : Prop := ∀ v σ H Q, g v σ H Q → g v σ H fun σ' H' => Q σ' H' ∧ H' = H ∧ σ'.length = σ.length ∧ ∀ j, j ∉ ws → σ'[j]? = σ[j]?
theorem wr_name (i : Nat) : Wr (gName i) [i] := fun v σ H Q h => ⟨h, rfl, List.length_set, fun j hj => List.getElem?_set_ne (fun z => hj (by simp [z]))⟩
theorem wrs_nil : Wrs gNil [] := fun v σ H Q h => ⟨h.1, h.2, rfl, rfl, fun _ _ => rfl⟩
/-- a target's wish may be weakened -/
def Mono (g : TG) : Prop := ∀ v σ H (Q Q' : L2.St → Hp → Prop), (∀ σ' H', Q σ' H' → Q' σ' H') → g v σ H Q → g v σ H Q'
def Monos (g : TGs) : Prop := ∀ v σ H (Q Q' : L2.St → Hp → Prop), (∀ σ' H', Q σ' H' → Q' σ' H') → g v σ H Q → g v σ H Q'
theorem mono_name (i : Nat) : Mono (gName i) := fun _ _ _ _ _ q h => q _ _ h
theorem monos_nil : Monos gNil := fun _ _ _ _ _ q h => ⟨h.1, q _ _ h.2⟩
theorem monos_cons {g : TG} {gs : TGs} (a : Mono g) (c : Monos gs) : Monos (gCons g gs) := fun v σ H Q Q' q ⟨x, r, e, h⟩ => ⟨x, r, e, a _ _ _ _ _ (fun σ' H' h' => c _ _ _ _ _ q h') h⟩
theorem wrs_cons {g : TG} {gs : TGs} {ws vs : List Nat} (ma : Mono g) (mc : Monos gs) (a : Wr g ws) (c : Wrs gs vs) : Wrs (gCons g gs) (ws ++ vs) := fun v σ H Q ⟨x, r, e, h⟩ =>
  ⟨x, r, e, ma _ _ _ _ _ (fun σ1 H1 ⟨h1, g1, l1, k1⟩ => mc _ _ _ _ _ (fun σ2 H2 ⟨h2, g2, l2, k2⟩ => ⟨h2, g2.trans g1, l2.trans l1, fun j hj => (k2 j fun z => hj (List.mem_append_right _ z)).trans (k1 j fun z => hj (List.mem_append_left _ z))⟩) (c _ _ _ _ h1)) (a _ _ _ _ h)⟩
theorem wr_tup {n : Nat} {gs : TGs} {ws : List Nat} (c : Wrs gs ws) : Wr (gTup K n gs) ws := fun v σ H Q ⟨a, xs, e, h1, h2, h⟩ => ⟨a, xs, e, h1, h2, c _ _ _ _ h⟩
theorem mono_tup {n : Nat} {gs : TGs} (c : Monos gs) : Mono (gTup K n gs) := fun v σ H Q Q' q ⟨a, xs, e, h1, h2, h⟩ => ⟨a, xs, e, h1, h2, c _ _ _ _ _ q h⟩
theorem wr_name2 (i j : Nat) : Wr (gTup K 2 (gCons (gName i) (gCons (gName j) gNil))) [i, j] := wr_tup (wrs_cons (mono_name i) (monos_cons (mono_name j) monos_nil) (wr_name i) (wrs_cons (mono_name j) monos_nil (wr_name j) wrs_nil))
theorem mono_name2 (i j : Nat) : Mono (gTup K 2 (gCons (gName i) (gCons (gName j) gNil))) := mono_tup (monos_cons (mono_name i) (monos_cons (mono_name j) monos_nil))
theorem wr_name3 (i j k : Nat) : Wr (gTup K 3 (gCons (gName i) (gCons (gName j) (gCons (gName k) gNil)))) [i, j, k] := wr_tup (wrs_cons (mono_name i) (monos_cons (mono_name j) (monos_cons (mono_name k) monos_nil)) (wr_name i) (wrs_cons (mono_name j) (monos_cons (mono_name k) monos_nil) (wr_name j) (wrs_cons (mono_name k) monos_nil (wr_name k) wrs_nil)))
theorem mono_name3 (i j k : Nat) : Mono (gTup K 3 (gCons (gName i) (gCons (gName j) (gCons (gName k) gNil)))) := mono_tup (monos_cons (mono_name i) (monos_cons (mono_name j) (monos_cons (mono_name k) monos_nil)))
/-! ### wiping -/
def wipeD (δ : Sl) : List Nat → Sl
  | [] => δ
  | v :: vs => (wipeD δ vs).set v none
theorem wipe_at : ∀ (vs : List Nat) (σ : L2.St) (j : Nat), (wipe σ vs)[j]? = if j ∈ vs then (if j < σ.length then some none else none) else σ[j]?
  | [], σ, j => by simp [wipe]
  | v :: vs, σ, j => by
    unfold wipe
    by_cases h : v = j
    · subst h
      by_cases hl : v < σ.length
      · rw [List.getElem?_set_self (by rw [wipe_length]; exact hl), if_pos List.mem_cons_self, if_pos hl]
      · rw [if_pos List.mem_cons_self, if_neg hl]
        exact List.getElem?_eq_none (by rw [List.length_set, wipe_length]; omega)
    · rw [List.getElem?_set_ne h, wipe_at vs σ j]
      have e : (j ∈ v :: vs) ↔ j ∈ vs := ⟨fun z => (List.mem_cons.mp z).elim (fun y => absurd y.symm h) id, List.mem_cons_of_mem _⟩
      by_cases hm : j ∈ vs
      · rw [if_pos hm, if_pos (e.mpr hm)]
      · rw [if_neg hm, if_neg (fun z => hm (e.mp z))]
theorem wipeD_le : ∀ (vs : List Nat) (δ : Sl), (wipeD δ vs).length = δ.length ∧ ∀ (j : Nat) (av : AV), (wipeD δ vs)[j]? = some (some av) → δ[j]? = some (some av) ∧ j ∉ vs
  | [], δ => ⟨rfl, fun j av h => ⟨h, by simp⟩⟩
  | v :: vs, δ => by
    obtain ⟨h1, h2⟩ := wipeD_le vs δ
    unfold wipeD
    refine ⟨by rw [List.length_set, h1], fun j av h => ?_⟩
    by_cases e : v = j
    · subst e
      by_cases hl : v < (wipeD δ vs).length
      · rw [List.getElem?_set_self hl] at h
        cases h
      · rw [List.getElem?_eq_none (by rw [List.length_set]; omega)] at h
        cases h
    · rw [List.getElem?_set_ne e] at h
      obtain ⟨a, c⟩ := h2 j av h
      exact ⟨a, fun z => (List.mem_cons.mp z).elim (fun y => e y.symm) c⟩
theorem Sat.wipe (S : Sat K A M H σ δ) (vs : List Nat) : Sat K A M H (L2.wipe σ vs) (wipeD δ vs) :=
  S.re id (fun i av e => by
    obtain ⟨h1, h2⟩ := (wipeD_le vs δ).2 i av e
    refine ⟨h1, ?_⟩
    rw [wipe_at, if_neg h2]
    rfl) (fun i j _ _ _ _ _ _ z => z) (by rw [wipe_length, (wipeD_le vs δ).1, S.len])
theorem wipe_eq {σ σ2 : L2.St} {vs ws : List Nat} (hl : σ2.length = (wipe σ vs).length) (h : ∀ j, j ∉ ws → σ2[j]? = (wipe σ vs)[j]?) (hw : ∀ j ∈ ws, j ∈ vs) : wipe σ2 vs = wipe σ vs := by
  apply List.ext_getElem?
  intro j
  have hl2 : σ2.length = σ.length := by rw [hl, wipe_length]
  rw [wipe_at, wipe_at, hl2]
  by_cases hj : j ∈ vs
  · rw [if_pos hj, if_pos hj]
  · rw [if_neg hj, if_neg hj, h j (fun z => hj (hw j z)), wipe_at, if_neg hj]
/-! ### list comprehensions -/
theorem RepL.snoc {vs : List V} {xs : List D} {v : V} {d : D} (r : RepL K M H vs xs) (h : Rep K M H v d) : RepL K M H (vs ++ [v]) (xs ++ [d]) := r.append (.cons h .nil)
theorem cb_sat {vs : List Nat} {D0 : Addr} {H1 : Hp} {u : HO} (S1 : Sat K A M H1 σ δ) (hD : H1 D0 = none) (f : Fr A.W H1 H') (eD : H' D0 = some u) : Sat K A (grow M D0) H' (L2.wipe σ vs) (wipeD δ vs) := by
  have Sw := (S1.wipe vs)
  have mvg : Mv M H1 (grow M D0) H' := fun a n hn => ⟨Kp.of fun oo eo => f.kp a oo (fun ww => n (S1.m0 a (S1.w0 a ww))) eo, fun mm => mm.elim n fun e => hn (by rw [e]; exact hD)⟩
  refine ⟨fun j av ej => ?_, Sw.dis, Sw.len, fun a mm => ?_, fun a mm => .inl (S1.m0 a mm), S1.w0, S1.g0, fun a ww => f.wl a ww (S1.wel a ww), S1.welG, S1.fr.trans f⟩
  · obtain ⟨v, e1, e2⟩ := Sw.slot j av ej
    refine ⟨v, e1, ?_⟩
    cases av with
    | dat d => exact Rep.mv mvg e2
    | own xs =>
      obtain ⟨a, vs2, ea, mm, gg, qq, rr⟩ := e2
      exact ⟨a, vs2, ea, .inl mm, gg, f.kp a _ (fun ww => S1.g0 a (S1.w0 a ww) gg) qq, RepL.mv mvg rr⟩
    | ownD xs =>
      obtain ⟨a, vs2, ea, mm, gg, qq, rr⟩ := e2
      exact ⟨a, vs2, ea, .inl mm, gg, f.kp a _ (fun ww => S1.g0 a (S1.w0 a ww) gg) qq, RepK.mv mvg rr⟩
    | well => exact e2
  · rcases mm with mm | e
    · exact f.ex S1.wel (S1.trk a mm)
    · rw [e, eD]; intro z; cases z
theorem we_lc {wi : TI} {g : TG} {tt : TT} {vs ws : List Nat} (hg : Wr g ws) (mg : Mono g) (hw : ∀ j ∈ ws, j ∈ vs) (h : WI K true wi δ fun xs => xs.length ≤ 90000 ∧ ∃ J : Nat → List D → Prop, J 0 [] ∧
      (∀ i d acc, xs[i]? = some d → J i acc → WG K g d (wipeD δ vs) fun δ2 => WT K tt δ2 fun c => (c = true → WE K true te δ2 fun y => J (i + 1) (acc ++ [y])) ∧ (c = false → J (i + 1) acc)) ∧ ∀ acc, J xs.length acc → Φ (.lst acc)) :
    WE K b (tLc wi g tt te vs) δ Φ := fun A M H σ S Q q =>
  h A M H σ S _ fun J H1 xs f1 dw ⟨hx, I, h0, hs, hd⟩ D0 hD => by
    obtain ⟨m, G, Yy, w, em, hG, hY⟩ := dw
    have S1 := S.step f1
    have stY := S1.st0 (b := true)
    have hDW : ¬ A.W D0 := stY.nw hD
    have hDM : ¬ M D0 := stY.nm hD
    refine lc_it w (fun i H' => ∃ acc vs', Fr A.W H1 H' ∧ H' D0 = some (.lst vs') ∧ RepL K (grow M D0) H' vs' acc ∧ acc.length ≤ i ∧ i ≤ m ∧ I i acc)
      ⟨[], [], Fr.new hD hDW, upd_same, .nil, Nat.le_refl _, Nat.zero_le _, h0⟩ (fun i H' _ ⟨acc, vs', f, _⟩ => hG M H' (f.mv stY.1)) (fun i x H' H2 hi ⟨acc, vs', f, eD, rl, hl, him, p⟩ y => ?_) (fun H' ⟨acc, vs', f, eD, rl, hl, him, p⟩ => ?_)
    · have SB : Sat K A (grow M D0) H' (L2.wipe σ vs) (wipeD δ vs) := cb_sat S1 hD f eD
      have mvD : Mv M H1 (grow M D0) H' := fun a n hn => ⟨Kp.of fun oo eo => f.kp a oo (fun ww => n (stY.1 a ww)) eo, fun mm => mm.elim n fun e => hn (by rw [e]; exact hD)⟩
      obtain ⟨k, d, ed, rd⟩ := hY i H' x H2 (grow M D0) hi mvD SB.trk y
      have f2 : Fr A.W H' H2 := ⟨fun a oo _ q => k a oo q, fun a _ q => by
        obtain ⟨x1, y1, z1, q1, q2⟩ := q
        exact ⟨x1, y1, z1, k a _ q1, q2⟩⟩
      have wf : ∀ a, A.W a → grow M D0 a := fun a ww => .inl (S1.m0 a (S1.w0 a ww))
      have main := hs i d acc ed p A (grow M D0) H2 (L2.wipe σ vs) x (SB.step f2) rd
      refine mg _ _ _ _ _ (fun σ3 H3 hq => ?_) (hg _ _ _ _ (main (fun σ3 H3 => ∃ δ3, Ext (grow M D0) H2 (grow M D0) H3 ∧ Sat K A (grow M D0) H3 σ3 δ3 ∧ WT K tt δ3 fun c => (c = true → WE K true te δ3 fun y => I (i + 1) (acc ++ [y])) ∧ (c = false → I (i + 1) acc)) fun σ3 H3 δ3 e3 S3 hw3 => ⟨δ3, e3, S3, hw3⟩))
      obtain ⟨⟨δ3, e3, S3, hw3⟩, eh, hl3, off⟩ := hq
      subst eh
      refine ⟨wipe_eq hl3 off hw, ?_⟩
      have g1 : Fr A.W H1 H3 := f.trans f2
      have rl3 := rl.fr f2 wf
      have eD3 : H3 D0 = some (.lst vs') := k _ _ eD
      refine hw3 A _ H3 σ3 S3 _ fun c H4 f4 hc => ?_
      cases c with
      | true =>
        show te σ3 H4 fun y H5 => ∃ acc, H5 D0 = some (.lst acc) ∧ acc.length < sizeLine ∧ _
        refine hc.1 rfl A _ H4 σ3 (S3.step f4) _ fun yv H5 yd f5 r5 p5 => ?_
        have eD5 : H5 D0 = some (.lst vs') := f5.kp _ _ hDW (f4.kp _ _ hDW eD3)
        refine ⟨vs', eD5, by rw [rl.length]; exact sz1000 (by omega), acc ++ [yd], vs' ++ [yv], ((g1.trans f4).trans f5).upd hD hDW, upd_same, ?_, by simp; omega, by omega, p5⟩
        have mvu : Mv (grow M D0) H5 (grow M D0) (upd H5 D0 (.lst (vs' ++ [yv]))) := fun a n hn => ⟨Kp.of fun oo eo => by rw [upd_ne (fun z : a = D0 => n (.inr z))]; exact eo, n⟩
        exact RepL.mv mvu (((rl3.fr f4 wf).fr f5 wf).snoc r5)
      | false =>
        show ∃ acc vs', _
        exact ⟨acc, vs', g1.trans f4, f4.kp _ _ hDW eD3, rl3.fr f4 wf, by omega, by omega, hc.2 rfl⟩
    · have s1 : RepL K M H' vs' acc := rl.sub fun a mm => .inl mm
      refine q (.ref D0) H' (.lst acc) (f1.trans f) (.lst eD (fun yy => hDM (S.yt _ yy)) (s1.sub S.yt)) (hd acc (em ▸ p))
/-! ### dict comprehensions -/
theorem we_dc {wi : TI} {g : TG} {tt : TT} {tk tv : TE} {vs ws : List Nat} (hg : Wr g ws) (mg : Mono g) (hw : ∀ j ∈ ws, j ∈ vs) (h : WI K true wi δ fun xs => xs.length ≤ 90000 ∧ ∃ J : Nat → List (Key × D) → Prop, J 0 [] ∧
      (∀ i d acc, xs[i]? = some d → J i acc → WG K g d (wipeD δ vs) fun δ2 => WT K tt δ2 fun c => (c = true → WE K true tk δ2 fun x => WE K true tv δ2 fun y => ∃ k : Key, x = kD k ∧ J (i + 1) (putD acc k y)) ∧ (c = false → J (i + 1) acc)) ∧ ∀ acc, J xs.length acc → Φ (.dic acc)) :
    WE K b (tDc wi g tt tk tv vs) δ Φ := fun A M H σ S Q q =>
  h A M H σ S _ fun J H1 xs f1 dw ⟨hx, I, h0, hs, hd⟩ D0 hD => by
    obtain ⟨m, G, Yy, w, em, hG, hY⟩ := dw
    have S1 := S.step f1
    have stY := S1.st0 (b := true)
    have hDW : ¬ A.W D0 := stY.nw hD
    have hDM : ¬ M D0 := stY.nm hD
    refine ⟨fun i mm H' => mm = m - i ∧ ∃ acc vs', Fr A.W H1 H' ∧ H' D0 = some (.dK vs') ∧ RepK K (grow M D0) H' vs' acc ∧ acc.length ≤ i ∧ i ≤ m ∧ I i acc,
      ⟨m, by simp, [], [], Fr.new hD hDW, upd_same, .nil, Nat.le_refl _, Nat.zero_le _, h0⟩, fun i mm H' ⟨emm, acc, vs', f, eD, rl, hl, him, p⟩ => ?_⟩
    have gq := hG M H' (f.mv stY.1)
    by_cases hlt : i < m
    · refine .inr ⟨w.goes i H' hlt gq, fun H' => ∃ acc vs', Fr A.W H1 H' ∧ H' D0 = some (.dK vs') ∧ RepK K (grow M D0) H' vs' acc ∧ acc.length ≤ i + 1 ∧ i + 1 ≤ m ∧ I (i + 1) acc, fun H' z => ⟨m - (i + 1), by omega, rfl, z⟩, fun x H2 y0 => ?_⟩
      have y := w.yields i H' x H2 hlt gq y0
      have SB : Sat K A (grow M D0) H' (L2.wipe σ vs) (wipeD δ vs) := cb_sat S1 hD f eD
      have mvD : Mv M H1 (grow M D0) H' := fun a n hn => ⟨Kp.of fun oo eo => f.kp a oo (fun ww => n (stY.1 a ww)) eo, fun mm => mm.elim n fun e => hn (by rw [e]; exact hD)⟩
      obtain ⟨k, d, ed, rd⟩ := hY i H' x H2 (grow M D0) hlt mvD SB.trk y
      have f2 : Fr A.W H' H2 := ⟨fun a oo _ q => k a oo q, fun a _ q => by
        obtain ⟨x1, y1, z1, q1, q2⟩ := q
        exact ⟨x1, y1, z1, k a _ q1, q2⟩⟩
      have wf : ∀ a, A.W a → grow M D0 a := fun a ww => .inl (S1.m0 a (S1.w0 a ww))
      have main := hs i d acc ed p A (grow M D0) H2 (L2.wipe σ vs) x (SB.step f2) rd
      refine mg _ _ _ _ _ (fun σ3 H3 hq => ?_) (hg _ _ _ _ (main (fun σ3 H3 => ∃ δ3, Ext (grow M D0) H2 (grow M D0) H3 ∧ Sat K A (grow M D0) H3 σ3 δ3 ∧ WT K tt δ3 fun c => (c = true → WE K true tk δ3 fun x => WE K true tv δ3 fun y => ∃ k : Key, x = kD k ∧ I (i + 1) (putD acc k y)) ∧ (c = false → I (i + 1) acc)) fun σ3 H3 δ3 e3 S3 hw3 => ⟨δ3, e3, S3, hw3⟩))
      obtain ⟨⟨δ3, e3, S3, hw3⟩, eh, hl3, off⟩ := hq
      subst eh
      refine ⟨wipe_eq hl3 off hw, ?_⟩
      have g1 : Fr A.W H1 H3 := f.trans f2
      have mvf : ∀ {Ha Hb : Hp}, Fr A.W Ha Hb → Mv (grow M D0) Ha (grow M D0) Hb := fun ff => ff.mv wf
      have rl3 := RepK.mv (mvf f2) rl
      have eD3 : H3 D0 = some (.dK vs') := k _ _ eD
      refine hw3 A _ H3 σ3 S3 _ fun c H4 f4 hc => ?_
      cases c with
      | true =>
        show tk σ3 H4 fun y H5 => tv σ3 H5 fun z H6 => _
        refine hc.1 rfl A _ H4 σ3 (S3.step f4) _ fun yv H5 yd f5 r5 h6 => h6 A _ H5 σ3 ((S3.step f4).step f5) _ fun zv H6 zd f6 r6 ⟨kk, ek, p6⟩ => ?_
        subst ek
        have eD6 : H6 D0 = some (.dK vs') := f6.kp _ _ hDW (f5.kp _ _ hDW (f4.kp _ _ hDW eD3))
        have rl6 := RepK.mv (mvf f6) (RepK.mv (mvf f5) (RepK.mv (mvf f4) rl3))
        have lp : (putD acc kk zd).length ≤ i + 1 := by
          unfold putD
          split
          · rw [List.length_map]; omega
          · simp; omega
        refine ⟨vs', kk, ?_, eD6, by rw [rl.length]; exact sz1000 (by omega), putD acc kk zd, putK vs' kk zv, (((g1.trans f4).trans f5).trans f6).upd hD hDW, upd_same, ?_, lp, by omega, p6⟩
        · cases kk with
          | inl i => cases r5; rfl
          | inr s => cases r5; rfl
        · have mvu : Mv (grow M D0) H6 (grow M D0) (upd H6 D0 (.dK (putK vs' kk zv))) := fun a n hn => ⟨Kp.of fun oo eo => by rw [upd_ne (fun z : a = D0 => n (.inr z))]; exact eo, n⟩
          exact RepK.mv mvu (rl6.put r6)
      | false =>
        show ∃ acc vs', _
        exact ⟨acc, vs', g1.trans f4, f4.kp _ _ hDW eD3, RepK.mv (mvf f4) rl3, by omega, by omega, hc.2 rfl⟩
    · have ei : i = m := by omega
      subst ei
      have s1 : RepK K M H' vs' acc := rl.sub fun a mm => .inl mm
      exact .inl ⟨w.stops H' gq, q (.ref D0) H' (.dic acc) (f1.trans f) (.dic (.inl eD) (fun yy => hDM (S.yt _ yy)) (s1.sub S.yt)) (hd acc (em ▸ p))⟩
/-! ### tests of comprehensions -/
theorem wt_true {Φ : Bool → Prop} (h : Φ true) : WT K (fun _ H Q => Q true H) δ Φ := fun A M H σ S Q q => q true H Fr.refl h
/-! ### texts walked, split, joined -/
def signsD (z : Str) : List D := z.cps.toList.map fun c => .str ⟨#[c]⟩
theorem wi_str {tl : TE} {Φ : List D → Prop} (h : WE K b tl δ fun x => ∃ z, x = .str z ∧ Φ (signsD z)) : WI K b (iStr tl) δ Φ := fun A M H σ S R q =>
  h A M H σ S _ fun v H1 x f1 r1 ⟨z, e, p⟩ => by
    subst e
    cases r1
    refine ⟨z, rfl, q _ H1 _ f1 ⟨_, _, _, walk_str, by simp [signsD], fun _ _ _ => trivial, fun i H2 v H3 M2 hi _ _ y => ?_⟩ p⟩
    obtain ⟨rfl, c, ec, rfl⟩ := y
    refine ⟨fun _ _ z => z, .str ⟨#[c]⟩, ?_, .str _⟩
    unfold signsD
    rw [List.getElem?_map, Array.getElem?_toList, ec]
    rfl
def rJoin (K : PySem.W.Frag) : V → List V → Hp → VK → Prop := fun x xs H Q => ∃ a p, ∃ ys : List Str, x = .str a ∧ xs = [.ref p] ∧ (SqL K H p (ys.map V.str) ∨ SqT K H p (ys.map V.str)) ∧ (ys.map (·.length)).sum + ys.length * a.length ≤ 16777216 ∧ Q (.str (Txt.join a ys)) H
theorem we_join (h : WE K false ta δ fun x => ∃ a, x = .str a ∧ WE K false tb δ fun y => ∃ ys : List Str, y = .lst (ys.map D.str) ∧ (ys.map (·.length)).sum + ys.length * a.length ≤ 1000000 ∧ Φ (.str (Txt.join a ys))) : WE K b (tM1 (rJoin K) ta tb) δ Φ := fun A M H σ S Q q =>
  h A M H σ S _ fun vx H1 x f1 r1 ⟨a, e, h2⟩ => by
    subst e
    cases r1
    refine ⟨⟨a, rfl⟩, h2 A M H1 σ (S.step f1) _ fun vy H2 y f2 r2 ⟨ys, ey, hl, p⟩ => ?_⟩
    subst ey
    cases r2 with
    | lst ha n r =>
      have e := r.strs
      subst e
      exact ⟨a, _, ys, rfl, rfl, .inl (.inl (.inl ha)), by omega, q _ H2 _ (f1.trans f2) (.str _) p⟩
def rSplit : V → List V → Hp → VK → Prop := fun x xs H Q => ∃ a b, x = .str a ∧ xs = [.str b] ∧ (b.length == 0) = false ∧ a.length + 2 ≤ sizeLine ∧ rNewStrs (Txt.split a b) H Q
theorem we_split (h : WE K b ta δ fun x => ∃ a, x = .str a ∧ WE K b tb δ fun y => ∃ c, y = .str c ∧ (c.length == 0) = false ∧ a.length ≤ 90000 ∧ Φ (.lst ((Txt.split a c).map D.str))) : WE K b (tM1 rSplit ta tb) δ Φ := fun A M H σ S Q q =>
  h A M H σ S _ fun vx H1 x f1 r1 ⟨a, e, h2⟩ => by
    subst e
    cases r1
    refine ⟨⟨a, rfl⟩, h2 A M H1 σ (S.step f1) _ fun vy H2 y f2 r2 ⟨c, ey, hc, hl, p⟩ => ?_⟩
    subst ey
    cases r2
    have st := ((S.step f1).step f2).st0 (b := b)
    exact ⟨a, c, rfl, rfl, hc, sz100 (by omega), fun pp hp => q _ _ _ ((f1.trans f2).trans (mk_fr st hp)) (mk_lst st (RepL.ofStrs _) hp) p⟩
/-! ### a dict walked by its keys -/
def tForD (t : TS) : TS := fun D σ H => tLock t D σ H ∨ t D σ H
theorem ps_forD {X : Cx} {st : Stmt} {t : TS} (h1 : PS X st (tLock t)) (h2 : PS X st t) : PS X st (tForD t) := ⟨fun pins s σ H D I h => h.elim (h1.run pins s σ H D I) (h2.run pins s σ H D I)⟩
/-! ### what a def promises -/
def startD (N : List Str) (as : List AV) : Sl := as.map some ++ List.replicate (N.length - as.length) none
theorem RepAs.get {vs : List V} {as : List AV} {W : AS} (r : RepAs K M W H vs as) : ∀ {i : Nat} {av : AV}, as[i]? = some av → ∃ v, vs[i]? = some v ∧ (match av with | .dat d => Rep K M H v d | .well => ∃ a, v = .ref a ∧ W a | _ => False) := by
  induction r with
  | nil => intro i av e; simp at e
  | dat h r ih =>
    intro i av e
    cases i with
    | zero => simp at e; subst e; exact ⟨_, rfl, h⟩
    | succ i => exact ih (by simpa using e)
  | well w r ih =>
    intro i av e
    cases i with
    | zero => simp at e; subst e; exact ⟨_, rfl, _, rfl, w⟩
    | succ i => exact ih (by simpa using e)
theorem sat_start {N : List Str} {vs : List V} {as : List AV} {W : AS} (st : St0 M W H) (r : RepAs K M W H vs as) : Sat K ⟨M, W, H⟩ M H (L2.start N vs) (startD N as) := by
  have hl := r.length
  have low : ∀ (i : Nat) (av : AV), (startD N as)[i]? = some (some av) → i < as.length ∧ as[i]? = some av := fun i av e => by
    unfold startD at e
    by_cases hi : i < as.length
    · rw [List.getElem?_append_left (by simpa using hi), List.getElem?_map] at e
      cases q : as[i]? with
      | none => rw [q] at e; cases e
      | some b => rw [q] at e; cases e; exact ⟨hi, rfl⟩
    · exfalso
      rw [List.getElem?_append_right (by simpa using hi)] at e
      rw [List.getElem?_replicate] at e
      split at e
      · cases e
      · cases e
  refine ⟨fun i av e => ?_, fun i j av bv a hne ei ej oi oj si sj => ?_, ?_, st.2.1, fun _ m => m, st.1, st.2.1, st.2.2, st.2.2, Fr.refl⟩
  · obtain ⟨hi, e1⟩ := low i av e
    obtain ⟨v, h1, h2⟩ := r.get e1
    refine ⟨v, ?_, ?_⟩
    · unfold L2.start
      rw [List.getElem?_append_left (by simpa [hl] using hi), List.getElem?_map, h1]
      rfl
    · cases av with
      | dat d => exact h2
      | well => exact h2
      | own _ => exact h2.elim
      | ownD _ => exact h2.elim
  · obtain ⟨hi, e1⟩ := low i av ei
    obtain ⟨v, h1, h2⟩ := r.get e1
    cases av with
    | dat d => cases oi
    | well => cases oi
    | own _ => exact h2.elim
    | ownD _ => exact h2.elim
  · unfold L2.start startD
    simp [hl]
/-- a def's body by data keeps the promise by data -/
theorem fn_body {t : TS} {N : List Str} {S0 : List AV → (D → Prop) → Prop} (h : ∀ as Φ, S0 as Φ → WS K t (startD N as) { nx := fun _ => Φ .non, rt := Φ }) (vs : List V) (H : Hp) (Q : VK) (E : XK) (hs : spA K S0 vs H Q E) :
    t { nx := fun _ H' => Q .non H', rt := Q } (L2.start N vs) H := by
  obtain ⟨as, M, W, Φ, st, r, hS, hq⟩ := hs
  refine h as Φ hS ⟨M, W, H⟩ M H _ (sat_start st r) _ (fun M' H' σ' δ' e S' p => hq .non H' .non S'.fr .non p) (fun M' H' σ' δ' e S' p => p.elim) (fun M' H' σ' δ' e S' p => p.elim) (fun M' H' σ' δ' v d S' rd p => hq v H' d S'.fr rd p)
end
end Z

namespace Z
open PySem PySem.Spec PyProof.Rows L2
section
variable {K : PySem.W.Frag} {b : Bool} {δ : Sl} {Φ Ψ : D → Prop} {ta tb tc te : TE} {t u : TT} {A : Act} {M M' M2 : AS} {H H' H2 : Hp} {σ : L2.St} {o : OC} {ts tu tw : TS}
/-! ### chains of comparisons -/
theorem we_chain {r r' : R2} (h : WE K b ta δ fun x => WE K b tb δ fun y => OpS K r x y fun z => ∃ k, z = .bl k ∧ (k = true → WE K b tc δ fun w => OpS K r' y w Φ) ∧ (k = false → Φ (.bl false))) : WE K b (tChain r r' ta tb tc) δ Φ := fun A M H σ S Q q =>
  h A M H σ S _ fun vx H1 x f1 r1 h2 => h2 A M H1 σ (S.step f1) _ fun vy H2 y f2 r2 h3 =>
    h3 (Y A M b) A.W H2 vx vy ((S.step f1).step f2).st0 (r1.fr f2 S.wy) r2 _ fun v H3 d f3 r3 ⟨k, e, ht, hf⟩ => by
      subst e
      cases r3
      refine ⟨k, rfl, ?_⟩
      have S3 := ((S.step f1).step f2).step f3
      cases k with
      | true =>
        show tc σ H3 _
        exact ht rfl A M H3 σ S3 _ fun vw H4 w f4 r4 h5 => h5 (Y A M b) A.W H4 vy vw (S3.step f4).st0 ((r2.fr f3 S.wy).fr f4 S.wy) r4 Q fun v H' d f r p => q v H' d ((((f1.trans f2).trans f3).trans f4).trans f) r p
      | false =>
        show Q (.bl false) H3
        exact q _ H3 _ ((f1.trans f2).trans f3) (.bl false) (hf rfl)
/-! ### what is one's own is given away -/
def frz : AV → AV
  | .own xs => .dat (.lst xs)
  | .ownD kvs => .dat (.dic kvs)
  | a => a
theorem Sat.freeze (S : Sat K A M H σ δ) {i : Nat} {av : AV} (e : δ[i]? = some (some av)) : ∃ M', Ext M H M' H ∧ Sat K A M' H σ (δ.set i (some (frz av))) := by
  have triv : frz av = av → ∃ M', Ext M H M' H ∧ Sat K A M' H σ (δ.set i (some (frz av))) := fun z => by
    have hl := (List.getElem?_eq_some_iff.mp e).1
    have ez : δ.set i (some (frz av)) = δ := by
      rw [z]
      refine List.ext_getElem? fun j => ?_
      by_cases hj : j = i
      · subst hj; rw [List.getElem?_set_self hl, e]
      · rw [List.getElem?_set_ne (Ne.symm hj)]
    exact ⟨M, Ext.refl, by rw [ez]; exact S⟩
  have main : ∀ p, σ[i]? = some (some (.ref p)) → isOwn av = true → M p → A.G p = none → (∀ M' H', Mv M H M' H' → ¬ M' p → RepA K A M' H' (.ref p) (frz av) ∨ H' p ≠ H p) → isOwn (frz av) = false → ∃ M', Ext M H M' H ∧ Sat K A M' H σ (δ.set i (some (frz av))) := fun p hs ho hm hg hA hno => by
    have hmv : Mv M H (fun a => M a ∧ a ≠ p) H := fun a n _ => ⟨Kp.of fun _ q => q, fun m => n m.1⟩
    refine ⟨fun a => M a ∧ a ≠ p, ⟨fun a o _ h => h, fun a m => .inl m.1⟩, ⟨fun j bv ej => ?_, fun j k bv cv a hne ej ek oj ok sj sk => ?_, by rw [List.length_set, S.len], fun a m => S.trk a m.1, fun a m => ⟨S.m0 a m, fun z => S.g0 a m (z ▸ hg)⟩, S.w0, S.g0, S.wel, S.welG, S.fr⟩⟩
    · by_cases hj : j = i
      · subst hj
        have hl : j < δ.length := (List.getElem?_eq_some_iff.mp e).1
        rw [List.getElem?_set_self hl] at ej
        cases ej
        rcases hA _ _ hmv (fun m => m.2 rfl) with h | h
        · exact ⟨_, hs, h⟩
        · exact absurd rfl h
      · rw [List.getElem?_set_ne (Ne.symm hj)] at ej
        obtain ⟨v, h1, h2⟩ := S.slot j bv ej
        refine ⟨v, h1, ?_⟩
        have ne : ∀ a, v = .ref a → isOwn bv = true → a ≠ p := fun a ea ob z => by
          rw [ea, z] at h1
          exact S.dis j i bv av p hj ej e ob ho h1 hs
        cases bv with
        | dat d => exact Rep.mv hmv h2
        | own xs =>
          obtain ⟨a, vs, ea, m, g, q, r⟩ := h2
          exact ⟨a, vs, ea, ⟨m, ne a ea rfl⟩, g, q, RepL.mv hmv r⟩
        | ownD xs =>
          obtain ⟨a, vs, ea, m, g, q, r⟩ := h2
          exact ⟨a, vs, ea, ⟨m, ne a ea rfl⟩, g, q, RepK.mv hmv r⟩
        | well => exact h2
    · have back : ∀ (n : Nat) (bv : AV), (δ.set i (some (frz av)))[n]? = some (some bv) → isOwn bv = true → δ[n]? = some (some bv) := fun n bv en ob => by
        by_cases hn : n = i
        · subst hn
          have hl : n < δ.length := (List.getElem?_eq_some_iff.mp e).1
          rw [List.getElem?_set_self hl] at en
          cases en
          rw [hno] at ob
          cases ob
        · rwa [List.getElem?_set_ne (Ne.symm hn)] at en
      exact S.dis j k bv cv a hne (back j bv ej oj) (back k cv ek ok) oj ok sj sk
  obtain ⟨v, h1, h2⟩ := S.slot i av e
  cases av with
  | dat d => exact triv rfl
  | well => exact triv rfl
  | own xs =>
    obtain ⟨a, vs, rfl, m, g, q, r⟩ := h2
    refine main a h1 rfl m g (fun M' H' mv n => ?_) rfl
    by_cases hq : H' a = H a
    · exact .inl (.lst (by rw [hq]; exact q) n (RepL.mv mv r))
    · exact .inr hq
  | ownD xs =>
    obtain ⟨a, vs, rfl, m, g, q, r⟩ := h2
    refine main a h1 rfl m g (fun M' H' mv n => ?_) rfl
    by_cases hq : H' a = H a
    · exact .inl (.dic (.inl (by rw [hq]; exact q)) n (RepK.mv mv r))
    · exact .inr hq
theorem ws_freeze (i : Nat) {av : AV} (e : δ[i]? = some (some av)) (h : WS K ts (δ.set i (some (frz av))) o) : WS K ts δ o := fun A M H σ S De n b c r => by
  obtain ⟨M', ex, S'⟩ := S.freeze e
  exact h A M' H σ S' De (fun M2 H2 σ2 δ2 e2 S2 p => n M2 H2 σ2 δ2 (ex.trans e2) S2 p) (fun M2 H2 σ2 δ2 e2 S2 p => b M2 H2 σ2 δ2 (ex.trans e2) S2 p) (fun M2 H2 σ2 δ2 e2 S2 p => c M2 H2 σ2 δ2 (ex.trans e2) S2 p) r
end
/-! ### list(d.values()) -/
theorem vals_at {ps : List V} {vs : List Value} (r : Vals ps vs) : True := trivial
def tListVals (te : TE) : TE := fun σ H Q => te σ H fun x H1 => ∃ (d : Addr) (kvs : List (Key × V)), x = .ref d ∧ Rd H1 d (.dK kvs) ∧ ∀ p, H1 p = none → Q (.ref p) (upd H1 p (.lst (kvs.map (·.2))))
theorem vals_kv : ∀ {kvs : List (Key × V)} {vs : List (Key × Value)}, KV kvs vs → Vals (kvs.map (·.2)) (vs.map (·.2))
  | _, _, .nil => .nil
  | _, _, .cons h t => .cons h.2 (vals_kv t)
theorem pe_listVals {X : Cx} {e : Expr} {te : TE} {p apos cpos pos : Pos} (hc : X.calm = true) (hg : Gl X "list") (hm : X.mg "list" = none) (he : PE X e te) (hv : bootBuiltins "list" = some (.type "list") := by decide +kernel) (hbase : attributeBase e "values" X.env (eval e X.env) = eval e X.env := by rfl) (hline : (apos.endLine == cpos.line) = true := by rfl)
    (hs : starEach [.Call (.Attribute e "values" apos) [] [] cpos] X.env = (false, eval (.Call (.Attribute e "values" apos) [] [] cpos) X.env) :: starEach [] X.env := by rfl) :
    PE X (.Call (.Name "list" p) [.Call (.Attribute e "values" apos) [] [] cpos] [] pos) (tListVals te) := by
  refine ⟨fun pins s σ H Q I hq => ?_⟩
  refine wpAny_Call_Name_kw (ld_blt I hg hm hv ?_)
  refine PyProof.Rows.callWith_type1 ?_ hs rfl
  rw [hs]
  show wpAny _ _ (spliced ((false, eval (.Call (.Attribute e "values" apos) [] [] cpos) X.env) :: backTo pos (starEach [] X.env))) _ _ s
  refine Calls.spliced_cons ?_
  refine wpAny_Call_method (T := "dict") (id := "dict.values") hbase rfl hline F.plainAttrs_dict F.slot_dict_values F.type_dict_values (thn (he.run pins s σ H _ I hq) fun u s1 ⟨x, H1, I1, rx, d, kvs, ex, hd, q⟩ => ?_)
  subst ex
  obtain rfl : u = Value.ref d := rx
  obtain ⟨hz, hs0, vs, kv, hdo⟩ := dk_rd I1.hok hd
  obtain ⟨ep, hat⟩ := hdo.dictAt
  have lk : kvs.length = vs.length := Paired.length kv
  have I2 : Inv X pins σ H1 { s1 with heap := s1.heap.push { cls := .type "dict_values", data := .fields #[.ref d] } } := I1.kept (t' := s1.toks) fun b ob q => Heap.get?_push_of_some _ q
  refine ⟨hdo.typeIs, hdo.mapOf.noDict, ?_⟩
  show wpAny _ _ (callWith cpos (.builtin "dict.values") [.ref d] [] []) _ X.xe s1
  refine method_meetsIn F.slot_dict_values F.entry_dict_values rfl (PySem.evalArgs_none ⟨rfl, hdo.typeIs, F.args_dict_values_1 _, _, meets_dict_values (mixKind X.prog X.w) d hs0, ⟨vs, hdo⟩, ?_⟩)
  refine Calls.spliced_nil ?_
  refine PySem.W.kdl_call (PySem.W.kdl_values (knd := mixKind X.prog X.w) (kvs := vs) (ep := ep)) (I1.ok.hd hc) ⟨⟨_, Heap.get?_push_size _ rfl, rfl, rfl⟩, hat.push _⟩ (by omega) fun h' tk acc c hk hS hacc => ?_
  have ev : acc.toList = vs.map (·.2) := by
    refine List.ext_getElem? fun j => ?_
    by_cases hj : j < acc.toList.length
    · obtain ⟨k, hk2⟩ := hacc.2 j _ (Array.getElem?_toList ▸ List.getElem?_eq_getElem hj)
      rw [List.getElem?_eq_getElem hj, List.getElem?_map, hk2]
      rfl
    · rw [List.getElem?_eq_none (Nat.le_of_not_lt hj), List.getElem?_eq_none]
      rw [List.length_map]
      have e1 := hacc.1
      rw [Array.length_toList] at hj
      omega
  refine ⟨.ref _, upd H1 _ (.lst (kvs.map (·.2))), I2.laid (t' := tk) hk (Nat.le_refl _)
    (show ObjOk X.prog X.w _ _ _ (.lst (kvs.map (·.2))) from ⟨by rw [List.length_map]; exact hz, acc.toList, c, by rw [ev]; exact vals_kv kv, by rw [Array.toArray_toList]; exact hS⟩), rfl, q _ (I2.hok.fresh (Nat.le_refl _))⟩
section
variable {K : PySem.W.Frag} {b : Bool} {δ : Sl} {Φ Ψ : D → Prop} {ta tb tc te : TE} {t u : TT} {A : Act} {M M' M2 : AS} {H H' H2 : Hp} {σ : L2.St} {o : OC} {ts tu tw : TS}
theorem we_listVals (h : WE K b te δ fun x => ∃ kvs, x = .dic kvs ∧ Φ (.lst (kvs.map (·.2)))) : WE K b (tListVals te) δ Φ := fun A M H σ S Q q =>
  h A M H σ S _ fun vx H1 x f1 r1 ⟨kvs, e, p⟩ => by
    subst e
    cases r1 with
    | dic ha n r =>
      have st := (S.step f1).st0 (b := b)
      exact ⟨_, _, rfl, ha, fun p0 hp => q _ _ _ (f1.trans (mk_fr st hp)) (mk_lst st r.valsD hp) p⟩
/-! ### a written dict of texts -/
def WordsK (K : PySem.W.Frag) (W : Addr) (ws : List Str) : Prop := ∀ z : Str, ∃ r, PySem.W.nsIn K W z = some r ∧ r.isSome = decide (z ∈ ws)
def rNotKD (K : PySem.W.Frag) (W : Addr) : R2 := fun x y H Q => ∃ (z : Str) (r : Option Value), x = .str z ∧ y = .ref W ∧ PySem.W.nsIn K W z = some r ∧ Q (V.bl (!r.isSome)) H
theorem os_notIn_kd {W : Addr} {ws : List Str} {z : Str} (hw : WordsK K W ws) (h : Φ (.bl (!decide (z ∈ ws)))) : OpS K (rNotKD K W) (.str z) (.clv (.ref W)) Φ := fun M Wl H vx vy st rx ry Q q => by
  cases rx
  cases ry
  obtain ⟨r, e1, e2⟩ := hw z
  exact ⟨z, r, rfl, rfl, e1, q _ H _ Fr.refl (.bl _) (by rw [e2]; exact h)⟩
/-! ### displays -/
theorem putD_nil {k : Key} {v : D} : putD [] k v = [(k, v)] := rfl
theorem we_disp1 {tk : TE} (h : WE K true tk δ fun x => ∃ k : Key, x = kD k ∧ WE K true te δ fun y => Φ (.dic [(k, y)])) : WE K true (tDisp [(tk, te)]) δ Φ := fun A M H σ S Q q => by
  intro p hp
  have st := S.st0 (b := true)
  have fp : Fr A.W H (upd H p (.dK [])) := mk_fr st hp
  have S1 : Sat K A (grow M p) (upd H p (.dK [])) σ δ := cb_sat (vs := []) S hp fp upd_same
  refine h A (grow M p) _ σ S1 _ fun vk H1 x f1 r1 ⟨k, e, h2⟩ => h2 A (grow M p) H1 σ (S1.step f1) _ fun vv H2 y f2 r2 pp => ?_
  subst e
  have wp : ¬ A.W p := st.nw hp
  have at2 : H2 p = some (.dK []) := f2.kp p _ wp (f1.kp p _ wp upd_same)
  have kv : vk = kV k := by
    cases k with
    | inl i => cases r1; rfl
    | inr s => cases r1; rfl
  refine ⟨at2, [(k, vv)], by rw [kv]; rfl, by show 1 ≤ 15; decide, ?_⟩
  have f3 : Fr A.W H (upd H2 p (.dK (mergeK [] [(k, vv)]))) := ((fp.trans f1).trans f2).upd hp wp
  refine q _ _ _ f3 (.dic (.inl upd_same) (st.nm hp) (.cons ?_ .nil)) pp
  exact Rep.mv (fun a n _ => ⟨Kp.of fun o eo => by rw [upd_ne (fun z : a = p => n (.inr z))]; exact eo, fun m => n (.inl m)⟩) r2
end
end Z

namespace Z
open PySem PySem.Spec PyProof.Rows L2
section
variable {K : PySem.W.Frag} {b : Bool} {δ : Sl} {Φ Ψ : D → Prop} {ta tb tc te : TE} {t u : TT} {A : Act} {M M' M2 : AS} {H H' H2 : Hp} {σ : L2.St} {o : OC} {ts tu tw : TS}
/-- a loop where its walk is known -/
theorem for_at {g : TG} (S : Sat K A M H σ δ) {J : It} {xs : List D} (dw : DW K J M H xs) {I : Nat → Sl → Prop} (h0 : I 0 δ) (hs : ∀ i d δ', xs[i]? = some d → I i δ' → WG K g d δ' fun δ2 => WS K ts δ2 { o with nx := I (i + 1), ct := I (i + 1), bk := o.nx }) (hd : ∀ δ', I xs.length δ' → o.nx δ')
    (De : Ends) (n : ∀ M' H' σ' δ', Ext M H M' H' → Sat K A M' H' σ' δ' → o.nx δ' → De.nx σ' H') (r : ∀ M' H' σ' δ' v d, Sat K A M' H' σ' δ' → Rep K A.M0 H' v d → o.rt d → De.rt v H') :
    ∃ W : Nat → Nat → L2.St → Hp → Prop, (∃ m, W 0 m σ H) ∧ ∀ i m σ H, W i m σ H →
      (J.stop i H ∧ De.nx σ H) ∨ (J.go i H ∧ ∃ N : L2.St → Hp → Prop, (∀ σ' H', N σ' H' → ∃ m', m' < m ∧ W (i + 1) m' σ' H') ∧ ∀ x H', J.yld i H x H' → g x σ H' fun σ2 H2 => ts { De with nx := N, ct := N, bk := De.nx } σ2 H2) := by
  obtain ⟨m, G, Yy, w, em, hG, hY⟩ := dw
  refine for_it w (fun i σ' H' => ∃ M' δ', Ext M H M' H' ∧ Sat K A M' H' σ' δ' ∧ I i δ') ⟨M, δ, Ext.refl, S, h0⟩ (fun i σ' H' _ ⟨M', δ', e, S', p⟩ => hG M' H' e.mv) (fun i x σ' H' H2 hi ⟨M', δ', e, S', p⟩ y => ?_) (fun σ' H' ⟨M', δ', e, S', p⟩ => n M' H' σ' δ' e S' (hd δ' (em ▸ p)))
  obtain ⟨k, d, ed, rd⟩ := hY i H' x H2 M' hi e.mv S'.trk y
  have f2 : Fr A.W H' H2 := ⟨fun a oo _ q => k a oo q, fun a _ q => by
    obtain ⟨x1, y1, z1, q1, q2⟩ := q
    exact ⟨x1, y1, z1, k a _ q1, q2⟩⟩
  refine hs i d δ' ed p A M' H2 σ' x (S'.step f2) rd _ fun σ3 H3 δ3 e3 S3 hw => ?_
  have e03 : Ext M H M' H3 := (e.trans (S'.ext f2)).trans e3
  exact hw A M' H3 σ3 S3 _ (fun M4 H4 σ4 δ4 e4 S4 p4 => ⟨M4, δ4, e03.trans e4, S4, p4⟩) (fun M4 H4 σ4 δ4 e4 S4 p4 => n M4 H4 σ4 δ4 (e03.trans e4) S4 p4)
    (fun M4 H4 σ4 δ4 e4 S4 p4 => ⟨M4, δ4, e03.trans e4, S4, p4⟩) r
def keysD (kvs : List (Key × D)) : List D := kvs.map fun kv => kD kv.1
theorem kV_rep (k : Key) : Rep K M H (kV k) (kD k) := by
  cases k with
  | inl i => exact .int i
  | inr s => exact .str s
theorem RepK.key : ∀ {vs : List (Key × V)} {xs : List (Key × D)} {i : Nat} {k : Key} {v : V}, RepK K M H vs xs → vs[i]? = some (k, v) → ∃ d, xs[i]? = some (k, d)
  | _, _, _, _, _, .nil, e => by simp at e
  | _, _, 0, _, _, .cons r _, e => by simp at e; obtain ⟨rfl, rfl⟩ := e; exact ⟨_, rfl⟩
  | _, _, i + 1, _, _, .cons _ r, e => by
    obtain ⟨d, h⟩ := RepK.key (i := i) r (by simpa using e)
    exact ⟨d, by simpa using h⟩
theorem dw_keys {d : Addr} {od : Obj} {vs : List (Key × V)} {kvs : List (Key × D)} (hd : H d = some (.frz od (.dK vs))) (hm : ¬ M d) (rk : RepK K M H vs kvs) : DW K (Itk d od vs) M H (keysD kvs) :=
  ⟨vs.length, _, _, walk_keys, by rw [keysD, List.length_map, rk.length], (fun M2 H2 mv => by
    rcases (mv d hm (some_ne hd)).1 _ hd with q | ⟨_, _, e, _⟩
    · exact q
    · cases e), fun i H2 v H3 M2 hi mv _ y => by
    obtain ⟨rfl, k, x, e, rfl⟩ := y
    obtain ⟨d', e'⟩ := rk.key e
    exact ⟨fun _ _ z => z, kD k, by rw [keysD, List.getElem?_map, e']; rfl, kV_rep k⟩⟩
/-! ### locked, and no longer -/
mutual
theorem Rep.un {d : Addr} {od : Obj} {vs : List (Key × V)} (hd : H d = some (.frz od (.dK vs))) : ∀ {v : V} {x : D}, Rep K M H v x → Rep K M (upd H d (.dK vs)) v x
  | _, _, .non => .non
  | _, _, .bl b => .bl b
  | _, _, .int i => .int i
  | _, _, .str s => .str s
  | _, _, .clv v => .clv v
  | _, _, .tup (a := a) h n r => .tup (by rw [upd_ne (fun z : a = d => by rw [z, hd] at h; cases h)]; exact h) n (RepL.un hd r)
  | _, _, .lst (a := a) h n r => .lst (by rw [upd_ne (fun z : a = d => by rw [z, hd] at h; cases h)]; exact h) n (RepL.un hd r)
  | _, _, .fl (a := a) h => by
    refine .fl ?_
    rcases h with ⟨h, n⟩ | h
    · have na : a ≠ d := fun z => by
        rw [z] at h
        rcases h with h | ⟨o, h⟩ <;> rw [hd] at h <;> cases h
      refine .inl ⟨?_, n⟩
      rcases h with h | ⟨o, h⟩
      · exact .inl (by rw [upd_ne na]; exact h)
      · exact .inr ⟨o, by rw [upd_ne na]; exact h⟩
    · exact .inr h
  | _, _, .dic (a := a) h n r => by
    refine .dic ?_ n (RepK.un hd r)
    by_cases na : a = d
    · subst na
      rcases h with h | ⟨o, h⟩
      · rw [hd] at h; cases h
      · rw [hd] at h
        cases h
        exact .inl upd_same
    · rcases h with h | ⟨o, h⟩
      · exact .inl (by rw [upd_ne na]; exact h)
      · exact .inr ⟨o, by rw [upd_ne na]; exact h⟩
  | _, _, .ins (a := a) h n r => .ins (by rw [upd_ne (fun z : a = d => by rw [z, hd] at h; cases h)]; exact h) n (RepF.un hd r)
theorem RepL.un {d : Addr} {od : Obj} {vs : List (Key × V)} (hd : H d = some (.frz od (.dK vs))) : ∀ {v : List V} {x : List D}, RepL K M H v x → RepL K M (upd H d (.dK vs)) v x
  | _, _, .nil => .nil
  | _, _, .cons h r => .cons (Rep.un hd h) (RepL.un hd r)
theorem RepK.un {d : Addr} {od : Obj} {vs : List (Key × V)} (hd : H d = some (.frz od (.dK vs))) : ∀ {v : List (Key × V)} {x : List (Key × D)}, RepK K M H v x → RepK K M (upd H d (.dK vs)) v x
  | _, _, .nil => .nil
  | _, _, .cons h r => .cons (Rep.un hd h) (RepK.un hd r)
theorem RepF.un {d : Addr} {od : Obj} {vs : List (Key × V)} (hd : H d = some (.frz od (.dK vs))) : ∀ {v : List (Str × V)} {x : List (Str × D)}, RepF K M H v x → RepF K M (upd H d (.dK vs)) v x
  | _, _, .nil => .nil
  | _, _, .cons h r => .cons (Rep.un hd h) (RepF.un hd r)
end
theorem well_ne {a d : Addr} {u : HO} (w : WellAt H a) (hd : H d = some u) (hu : ∀ xs, u ≠ .lst xs) : a ≠ d := fun z => by
  obtain ⟨x, y, k, e, _⟩ := w
  rw [z, hd] at e
  cases e
  exact hu _ rfl
/-- the activation while d is locked -/
def lkAct (A : Act) (d : Addr) (od : Obj) (u : HO) : Act := ⟨A.M0, A.W, fun a => if a = d ∧ A.G d ≠ none then some (.frz od u) else A.G a⟩
theorem lk_none {d : Addr} {od : Obj} {u : HO} {a : Addr} : (lkAct A d od u).G a = none ↔ A.G a = none := by
  show (if a = d ∧ A.G d ≠ none then some (HO.frz od u) else A.G a) = none ↔ _
  by_cases c : a = d ∧ A.G d ≠ none
  · rw [if_pos c]
    constructor
    · intro z; cases z
    · intro z; exact absurd (c.1 ▸ z) c.2
  · rw [if_neg c]
theorem Sat.lock (S : Sat K A M H σ δ) {d : Addr} {vs : List (Key × V)} {od : Obj} (hd : H d = some (.dK vs)) (hm : ¬ M d) : Sat K (lkAct A d od (.dK vs)) M (upd H d (.frz od (.dK vs))) σ δ := by
  have mv : Mv M H M (upd H d (.frz od (.dK vs))) := fun a n _ => ⟨fun oo e => by
    by_cases z : a = d
    · subst z
      rw [hd] at e
      cases e
      exact .inr ⟨_, od, rfl, upd_same⟩
    · exact .inl (by rw [upd_ne z]; exact e), n⟩
  have wn : ∀ a, WellAt H a → WellAt (upd H d (.frz od (.dK vs))) a := fun a w => by
    have ne := well_ne w hd (fun xs z => by cases z)
    obtain ⟨x, y, z, e, q⟩ := w
    exact ⟨x, y, z, by rw [upd_ne ne]; exact e, q⟩
  refine ⟨fun i av e => ?_, S.dis, S.len, fun a m => ?_, S.m0, S.w0, fun a m z => S.g0 a m (lk_none.mp z), fun a w => wn a (S.wel a w), fun a w => ?_, ?_⟩
  · obtain ⟨v, h1, h2⟩ := S.slot i av e
    refine ⟨v, h1, ?_⟩
    have ne : ∀ a, M a → a ≠ d := fun a m z => hm (z ▸ m)
    cases av with
    | dat x => exact Rep.mv mv h2
    | own xs =>
      obtain ⟨a, ws, ea, m, g, q, r⟩ := h2
      exact ⟨a, ws, ea, m, lk_none.mpr g, by rw [upd_ne (ne a m)]; exact q, RepL.mv mv r⟩
    | ownD xs =>
      obtain ⟨a, ws, ea, m, g, q, r⟩ := h2
      exact ⟨a, ws, ea, m, lk_none.mpr g, by rw [upd_ne (ne a m)]; exact q, RepK.mv mv r⟩
    | well => exact h2
  · rw [upd_ne (fun z : a = d => hm (z ▸ m))]; exact S.trk a m
  · have wa : WellAt A.G a := S.welG a w
    obtain ⟨x, y, z, e, q⟩ := wa
    refine ⟨x, y, z, ?_, q⟩
    show (if a = d ∧ A.G d ≠ none then some (HO.frz od (.dK vs)) else A.G a) = _
    rw [if_neg (fun c => well_ne (S.wel a w) hd (fun xs z => by cases z) c.1)]
    exact e
  · refine ⟨fun a oo nw e => ?_, fun a w _ => wn a (S.wel a w)⟩
    have e' : (if a = d ∧ A.G d ≠ none then some (HO.frz od (.dK vs)) else A.G a) = some oo := e
    by_cases c : a = d
    · subst c
      by_cases g : A.G a = none
      · rw [if_neg (fun z => z.2 g), g] at e'; cases e'
      · rw [if_pos ⟨rfl, g⟩] at e'
        rw [upd_same]; exact e'
    · rw [if_neg (fun z => c z.1)] at e'
      rw [upd_ne c]
      exact S.fr.kp a oo nw e'
theorem Sat.unlock {d : Addr} {vs : List (Key × V)} {od : Obj} (hA : A.G d = none ∨ A.G d = some (.dK vs)) (S : Sat K (lkAct A d od (.dK vs)) M H σ δ) (hd : H d = some (.frz od (.dK vs))) (hm : ¬ M d) : Sat K A M (upd H d (.dK vs)) σ δ := by
  have wn : ∀ a, WellAt H a → WellAt (upd H d (.dK vs)) a := fun a w => by
    have ne := well_ne w hd (fun xs z => by cases z)
    obtain ⟨x, y, z, e, q⟩ := w
    exact ⟨x, y, z, by rw [upd_ne ne]; exact e, q⟩
  refine ⟨fun i av e => ?_, S.dis, S.len, fun a m => ?_, S.m0, S.w0, fun a m z => S.g0 a m (lk_none.mpr z), fun a w => wn a (S.wel a w), fun a w => ?_, ?_⟩
  · obtain ⟨v, h1, h2⟩ := S.slot i av e
    refine ⟨v, h1, ?_⟩
    have ne : ∀ a, M a → a ≠ d := fun a m z => hm (z ▸ m)
    cases av with
    | dat x => exact Rep.un hd h2
    | own xs =>
      obtain ⟨a, ws, ea, m, g, q, r⟩ := h2
      exact ⟨a, ws, ea, m, lk_none.mp g, by rw [upd_ne (ne a m)]; exact q, RepL.un hd r⟩
    | ownD xs =>
      obtain ⟨a, ws, ea, m, g, q, r⟩ := h2
      exact ⟨a, ws, ea, m, lk_none.mp g, by rw [upd_ne (ne a m)]; exact q, RepK.un hd r⟩
    | well => exact h2
  · rw [upd_ne (fun z : a = d => hm (z ▸ m))]; exact S.trk a m
  · have wa := S.welG a w
    obtain ⟨x, y, z, e, q⟩ := wa
    refine ⟨x, y, z, ?_, q⟩
    have e' : (if a = d ∧ A.G d ≠ none then some (HO.frz od (.dK vs)) else A.G a) = _ := e
    by_cases c : a = d ∧ A.G d ≠ none
    · rw [if_pos c] at e'; cases e'
    · rw [if_neg c] at e'; exact e'
  · refine ⟨fun a oo nw e => ?_, fun a w _ => wn a (S.wel a w)⟩
    by_cases c : a = d
    · subst c
      rcases hA with g | g
      · rw [g] at e; cases e
      · rw [g] at e; rw [upd_same]; exact e
    · rw [upd_ne c]
      refine S.fr.kp a oo nw ?_
      show (if a = d ∧ A.G d ≠ none then some (HO.frz od (.dK vs)) else A.G a) = _
      rw [if_neg (fun z => c z.1)]; exact e
/-- for k in d, d a dict that no one owns -/
theorem ws_forD {i : Nat} {kvs : List (Key × D)} {g : TG} (e : δ[i]? = some (some (.dat (.dic kvs)))) (I : Nat → Sl → Prop) (h0 : I 0 δ)
    (hs : ∀ i d δ', (keysD kvs)[i]? = some d → I i δ' → WG K g d δ' fun δ2 => WS K ts δ2 { nx := I (i + 1), rt := fun _ => False, ct := I (i + 1), bk := o.nx }) (hd : ∀ δ', I (keysD kvs).length δ' → o.nx δ') : WS K (tForD (tFor (iKeys (tVar i)) g ts)) δ o := fun A M H σ S De n b c r => by
  obtain ⟨v, h1, h2⟩ := S.slot i _ e
  have h2 : Rep K M H v (.dic kvs) := h2
  cases h2 with
  | @dic d vs _ ha hm rk =>
    rcases ha with ha | ⟨od, ha⟩
    · refine .inl ⟨d, _, ha, trivial, fun od => ?_⟩
      have SL : Sat K (lkAct A d od (.dK vs)) M (upd H d (.frz od (.dK vs))) σ δ := S.lock ha hm
      have rk' : RepK K M (upd H d (.frz od (.dK vs))) vs kvs := RepK.mv (fun a n _ => ⟨fun oo e => by
        by_cases z : a = d
        · subst z
          rw [ha] at e
          cases e
          exact .inr ⟨_, od, rfl, upd_same⟩
        · exact .inl (by rw [upd_ne z]; exact e), n⟩) rk
      have hA : A.G d = none ∨ A.G d = some (.dK vs) := by
        cases g : A.G d with
        | none => exact .inl rfl
        | some oo =>
          have q := S.fr.kp d oo (fun w => hm (S.m0 d (S.w0 d w))) g
          rw [ha] at q
          exact .inr q.symm
      refine ⟨_, h1, d, od, rfl, .inl ⟨vs, upd_same, ?_⟩⟩
      refine for_at (o := { o with rt := fun _ => False }) SL (dw_keys upd_same hm rk') h0 hs hd _ (fun M' H' σ' δ' ex S' p => ?_) (fun M' H' σ' δ' v x S' rv p => ?_)
      · have e1 : H' d = some (.frz od (.dK vs)) := ex.1 d _ hm upd_same
        have hm' : ¬ M' d := fun m => (ex.2 d m).elim hm fun z => by rw [upd_same] at z; cases z
        refine ⟨e1, n M' _ σ' δ' ⟨fun a oo na ea => ?_, fun a m => ?_⟩ (S'.unlock hA e1 hm') p⟩
        · by_cases z : a = d
          · subst z; rw [upd_same, ← ea, ha]
          · rw [upd_ne z]; exact ex.1 a oo na (by rw [upd_ne z]; exact ea)
        · rcases ex.2 a m with q | q
          · exact .inl q
          · refine .inr ?_
            by_cases z : a = d
            · subst z; rw [upd_same] at q; cases q
            · rwa [upd_ne z] at q
      · exact p.elim
    · refine .inr ⟨_, h1, d, od, rfl, .inl ⟨vs, ha, ?_⟩⟩
      exact for_at (o := { o with rt := fun _ => False }) S (dw_keys ha hm rk) h0 hs hd _ (fun M' H' σ' δ' ex S' p => n M' H' σ' δ' ex S' p) (fun M' H' σ' δ' v x S' rv p => p.elim)
/-! ### None or an int -/
def oD : Option Int → D
  | none => .non
  | some i => .int i
def oV : Option Int → V
  | none => .non
  | some i => .int i
theorem RepL.oV : ∀ {os : List (Option Int)} {vs : List V}, RepL K M H vs (os.map oD) → vs = os.map oV
  | [], _, .nil => rfl
  | none :: r, _, .cons .non t => by rw [RepL.oV t]; rfl
  | some i :: r, _, .cons (.int _) t => by rw [RepL.oV t]; rfl
theorem inV_none : ∀ os : List (Option Int), inV .non (os.map oV) = decide (none ∈ os)
  | [] => rfl
  | none :: r => by simp [inV, oV, eqV]
  | some i :: r => by
    have ih := inV_none r
    unfold inV at ih ⊢
    rw [List.map_cons, List.any_cons, ih]
    simp [oV, eqV]
theorem flat_oV : ∀ os : List (Option Int), (os.map oV).all flatV = true
  | [] => rfl
  | none :: r => by rw [List.map_cons, List.all_cons, flat_oV r]; rfl
  | some i :: r => by rw [List.map_cons, List.all_cons, flat_oV r]; rfl
theorem os_in_none {os : List (Option Int)} (h : Φ (.bl (decide (none ∈ os)))) : OpS K (rInU K) .non (.lst (os.map oD)) Φ := fun M W H vx vy st rx ry Q q => by
  cases rx
  cases ry with
  | lst ha n rl =>
    have e := rl.oV
    subst e
    refine .inl ⟨_, _, rfl, .inl (.inl (.inl ha)), rfl, flat_oV os, q _ H _ Fr.refl (.bl _) ?_⟩
    show Φ (.bl (inV .non (os.map oV)))
    rw [inV_none]
    exact h
/-! ### a call by names, in the reverse order -/
theorem RepAs.app {W : AS} : ∀ {vs ws : List V} {as bs : List AV}, RepAs K M W H vs as → RepAs K M W H ws bs → RepAs K M W H (vs ++ ws) (as ++ bs)
  | _, _, _, _, .nil, s => s
  | _, _, _, _, .dat h r, s => .dat h (RepAs.app r s)
  | _, _, _, _, .well h r, s => .well h (RepAs.app r s)
theorem RepAs.rev {W : AS} : ∀ {vs : List V} {as : List AV}, RepAs K M W H vs as → RepAs K M W H vs.reverse as.reverse
  | _, _, .nil => .nil
  | _, _, .dat h r => by rw [List.reverse_cons, List.reverse_cons]; exact (RepAs.rev r).app (.dat h .nil)
  | _, _, .well h r => by rw [List.reverse_cons, List.reverse_cons]; exact (RepAs.rev r).app (.well h .nil)
theorem we_callR {S0 : List AV → (D → Prop) → Prop} {E : XK} {tk : TA} (h : WA K b tk δ fun as => S0 as.reverse Φ) : WE K b (tCallK (spA K S0) (fun _ zs => zs.reverse) E tNil tk) δ Φ := fun A M H σ S Q q =>
  h A M H σ S _ fun vs H1 as f1 r1 h3 => ⟨as.reverse, Y A M b, A.W, Φ, (S.step f1).st0, r1.rev, h3, fun v H' d f r p => q v H' d (f1.trans f) r p⟩
end
end Z

namespace Z
open PySem PySem.Spec PyProof.Rows L2
theorem spA_len {K : PySem.W.Frag} {S : List AV → (D → Prop) → Prop} {vs : List V} {H : Hp} {Q : VK} {E : XK} {n : Nat} (h : spA K S vs H Q E) (hl : ∀ as Φ, S as Φ → as.length = n) : vs.length = n := by
  obtain ⟨as, M, W, Φ, st, r, hs, _⟩ := h
  rw [r.length, hl as Φ hs]
theorem oD_ncl (a : Option Int) (w : V) : oD a ≠ .clv w := by cases a <;> intro z <;> cases z
theorem isNon_oD (a : Option Int) : isNonD (oD a) = a.isNone := by cases a <;> rfl
theorem tf {p : Prop} (e : true = false) : p := nomatch e
theorem ft {p : Prop} (e : false = true) : p := nomatch e
theorem le_nil : Le [] [] := ⟨rfl, fun i av e => by simp at e⟩
theorem le_keep {x : Option AV} {a c : Sl} (h : Le a c) : Le (x :: a) (x :: c) := ⟨by simp [h.1], fun i av e => by
  cases i with
  | zero => simpa using e
  | succ i => simpa using h.2 i av (by simpa using e)⟩
theorem le_drop {y : Option AV} {a c : Sl} (h : Le a c) : Le (none :: a) (y :: c) := ⟨by simp [h.1], fun i av e => by
  cases i with
  | zero => simp at e
  | succ i => simpa using h.2 i av (by simpa using e)⟩
theorem Le.refl {a : Sl} : Le a a := ⟨rfl, fun _ _ e => e⟩
theorem Le.trans {a c d : Sl} (h : Le a c) (k : Le c d) : Le a d := ⟨h.1.trans k.1, fun i av e => k.2 i av (h.2 i av e)⟩
def Up (P : Sl → Prop) : Sl → Prop := fun δ' => ∃ δ0, P δ0 ∧ Le δ0 δ'
section
variable {K : PySem.W.Frag} {b : Bool} {δ : Sl} {Φ Ψ : D → Prop} {ta tb tc te : TE} {t u : TT} {A : Act} {M M' M2 : AS} {H H' H2 : Hp} {σ : L2.St} {o : OC} {ts tu tw : TS}
theorem wg_weak {g : TG} {d : D} {δ' : Sl} {Ψ : Sl → Prop} (l : Le δ' δ) (h : WG K g d δ' Ψ) : WG K g d δ Ψ := fun A M H σ v S r Q q => h A M H σ v (S.weak l) r Q q
theorem wt_weak {δ' : Sl} {Ψ : Bool → Prop} (l : Le δ' δ) (h : WT K t δ' Ψ) : WT K t δ Ψ := fun A M H σ S Q q => h A M H σ (S.weak l) Q q
theorem ws_forE {wi : TI} {g : TG} (P : Nat → Sl → Prop) (h0 : ∃ δ0, P 0 δ0 ∧ Le δ0 δ) (h : WI K true wi δ fun xs => (∀ i d δ0, xs[i]? = some d → P i δ0 → WG K g d δ0 fun δ2 => WS K ts δ2 { o with nx := Up (P (i + 1)), ct := Up (P (i + 1)), bk := o.nx }) ∧ ∀ δ0 δ', P xs.length δ0 → Le δ0 δ' → o.nx δ') :
    WS K (tFor wi g ts) δ o := ws_for fun A M H σ S R q => h A M H σ S R fun J H' xs f dw ⟨hs, hd⟩ => q J H' xs f dw ⟨fun i => Up (P i), h0, fun i d δ' e ⟨δ0, p, l⟩ => wg_weak l (hs i d δ0 e p), fun δ' ⟨δ0, p, l⟩ => hd δ0 δ' p l⟩
theorem ws_forU {wi : TI} {g : TG} (P : Nat → Sl → Prop) (h0 : ∃ δ0, P 0 δ0 ∧ Le δ0 δ) (h : WI K true wi δ fun xs => (∀ i d δ0, xs[i]? = some d → P i δ0 → WG K g d δ0 fun δ2 => WS K ts δ2 { o with nx := Up (P (i + 1)), ct := Up (P (i + 1)), bk := fun δ' => WS K tu δ' o }) ∧ ∀ δ0, P xs.length δ0 → WS K tu δ0 o) :
    WS K (tSeq (tFor wi g ts) tu) δ o := ws_seq (ws_forE P h0 fun A M H σ S R q => h A M H σ S R fun J H' xs f dw ⟨hs, hd⟩ => q J H' xs f dw ⟨hs, fun δ0 δ' p l => ws_weak l (hd δ0 p)⟩)
/-- a slot takes a new object of its own -/
theorem Sat.setOwn (S : Sat K A M H σ δ) {p : Addr} {u : HO} {i : Nat} {av : AV} (hp : H p = none) (ho : isOwn av = true) (hA : A.G p = none → RepA K A (grow M p) (upd H p u) (.ref p) av) : Sat K A (grow M p) (upd H p u) (σ.set i (some (.ref p))) (δ.set i (some av)) := by
  have st := S.st0 (b := true)
  have base : Sat K A (grow M p) (upd H p u) σ δ := cb_sat (vs := []) S hp (mk_fr st hp) upd_same
  have gp : A.G p = none := S.fr.back S.welG hp
  refine ⟨fun j bv e => ?_, fun j k bv cv a hne ej ek oj ok sj sk => ?_, by rw [List.length_set, List.length_set, S.len], base.trk, base.m0, base.w0, base.g0, base.wel, base.welG, base.fr⟩
  · by_cases hj : j = i
    · subst hj
      have hl : j < δ.length := by
        have q := (List.getElem?_eq_some_iff.mp e).1
        rw [List.length_set] at q
        exact q
      rw [List.getElem?_set_self hl] at e
      cases e
      exact ⟨_, by rw [List.getElem?_set_self (by rw [S.len]; exact hl)], hA gp⟩
    · rw [List.getElem?_set_ne (Ne.symm hj)] at e ⊢
      exact base.slot j bv e
  · have old : ∀ (n : Nat) (bv : AV), δ[n]? = some (some bv) → isOwn bv = true → σ[n]? = some (some (.ref a)) → a ≠ p := fun n bv en ob sn z => by
      obtain ⟨v, h1, h2⟩ := S.slot n bv en
      rw [sn] at h1
      cases h1
      cases bv with
      | own xs =>
        obtain ⟨a', vs, ea, m, g, q, r⟩ := h2
        cases ea
        rw [z, hp] at q; cases q
      | ownD xs =>
        obtain ⟨a', vs, ea, m, g, q, r⟩ := h2
        cases ea
        rw [z, hp] at q; cases q
      | _ => cases ob
    have at_ : ∀ (n : Nat), n = i → (σ.set i (some (V.ref p)))[n]? = some (some (.ref a)) → a = p := fun n hn h => by
      subst hn
      have hl : n < σ.length := by
        have q := (List.getElem?_eq_some_iff.mp h).1
        rw [List.length_set] at q
        exact q
      rw [List.getElem?_set_self hl] at h
      cases h; rfl
    by_cases hj : j = i
    · by_cases hk : k = i
      · exact hne (hj.trans hk.symm)
      · rw [List.getElem?_set_ne (Ne.symm hk)] at ek sk
        exact old k cv ek ok sk (at_ j hj sj)
    · rw [List.getElem?_set_ne (Ne.symm hj)] at ej sj
      by_cases hk : k = i
      · exact old j bv ej oj sj (at_ k hk sk)
      · rw [List.getElem?_set_ne (Ne.symm hk)] at ek sk
        exact S.dis j k bv cv a hne ej ek oj ok sj sk
/-- name = [a, ..], a list of one's own -/
theorem ws_newLs {i : Nat} {tr : TA} (h : WA K true tr δ fun as => as.length ≤ 100000 ∧ ∃ ds, datas as = some ds ∧ o.nx (δ.set i (some (.own ds)))) : WS K (tAsg (tLst tr) (gName i)) δ o := fun A M H σ S De n b c r =>
  h A M H σ S _ fun vs H1 as f1 r1 ⟨hl, ds, e, p⟩ => by
    have rl := datas_rep r1 e
    have S1 := S.step f1
    refine ⟨by rw [r1.length]; exact Nat.le_trans hl (by decide), fun q hq => ?_⟩
    have mv : Mv M H1 (grow M q) (upd H1 q (.lst vs)) := fun a n h => ⟨Kp.of fun o e => by rw [upd_ne (ne_of_none e hq)]; exact e, fun m => m.elim n fun e => h (by rw [e]; exact hq)⟩
    have S2 := S1.setOwn (i := i) (u := .lst vs) (av := .own ds) hq rfl fun g => ⟨q, vs, rfl, .inr rfl, g, upd_same, RepL.mv mv rl⟩
    exact n _ _ _ _ ((S.ext f1).trans (Ext.new hq)) S2 p
/-- a loop whose law is known when its walk is -/
theorem ws_forVE {wi : TI} {g : TG} (h : WI K true wi δ fun xs => ∃ P : Nat → Sl → Prop, (∃ δ0, P 0 δ0 ∧ Le δ0 δ) ∧ (∀ i d δ0, xs[i]? = some d → P i δ0 → WG K g d δ0 fun δ2 => WS K ts δ2 { o with nx := Up (P (i + 1)), ct := Up (P (i + 1)), bk := o.nx }) ∧ ∀ δ0 δ', P xs.length δ0 → Le δ0 δ' → o.nx δ') :
    WS K (tFor wi g ts) δ o := ws_for fun A M H σ S R q => h A M H σ S R fun J H' xs f dw ⟨P, h0, hs, hd⟩ => q J H' xs f dw ⟨fun i => Up (P i), h0, fun i d δ' e ⟨δ0, p, l⟩ => wg_weak l (hs i d δ0 e p), fun δ' ⟨δ0, p, l⟩ => hd δ0 δ' p l⟩
theorem ws_forV {wi : TI} {g : TG} (h : WI K true wi δ fun xs => ∃ P : Nat → Sl → Prop, (∃ δ0, P 0 δ0 ∧ Le δ0 δ) ∧ (∀ i d δ0, xs[i]? = some d → P i δ0 → WG K g d δ0 fun δ2 => WS K ts δ2 { o with nx := Up (P (i + 1)), ct := Up (P (i + 1)), bk := fun δ' => WS K tu δ' o }) ∧ ∀ δ0, P xs.length δ0 → WS K tu δ0 o) :
    WS K (tSeq (tFor wi g ts) tu) δ o := ws_seq (ws_forVE fun A M H σ S R q => h A M H σ S R fun J H' xs f dw ⟨P, h0, hs, hd⟩ => q J H' xs f dw ⟨P, h0, hs, fun δ0 δ' p l => ws_weak l (hd δ0 p)⟩)
/-- a list comprehension that draws nothing -/
theorem we_lcX {wi : TI} {g : TG} {tt : TT} {vs ws : List Nat} (hg : Wr g ws) (mg : Mono g) (hw : ∀ j ∈ ws, j ∈ vs) (h : WI K true wi δ fun ds => ∃ (α : Type) (xs : List α) (e : α → D) (f : α → Option D), ds = xs.map e ∧ xs.length ≤ 90000 ∧
      (∀ x ∈ xs, WG K g (e x) (wipeD δ vs) fun δ2 => WT K tt δ2 fun c => (c = true → WE K true te δ2 fun y => f x = some y) ∧ (c = false → f x = none)) ∧ Φ (.lst (xs.filterMap f))) : WE K b (tLc wi g tt te vs) δ Φ :=
  we_lc hg mg hw fun A M H σ S R q => h A M H σ S R fun J H' ds f1 dw ⟨α, xs, e, f, ed, hx, hs, hp⟩ => q J H' ds f1 dw ⟨by rw [ed, List.length_map]; exact hx, fun i acc => acc = (xs.take i).filterMap f, rfl, fun i d acc hi ha => by
    rw [ed, List.getElem?_map] at hi
    cases ex : xs[i]? with
    | none => rw [ex] at hi; cases hi
    | some x =>
      rw [ex] at hi
      cases hi
      have et : xs.take (i + 1) = xs.take i ++ [x] := by rw [List.take_add_one, ex]; rfl
      intro A M H σ v S r Q qq
      refine hs x (List.mem_of_getElem? ex) A M H σ v S r Q fun σ' H' δ' e' S' hw' => qq σ' H' δ' e' S' (hw'.imp fun c hc => ⟨fun z => (hc.1 z).imp fun y hy => ?_, fun z => ?_⟩)
      · show acc ++ [y] = (xs.take (i + 1)).filterMap f
        have ha : acc = (xs.take i).filterMap f := ha
        rw [et, List.filterMap_append, ← ha, List.filterMap_cons, hy]; rfl
      · show acc = (xs.take (i + 1)).filterMap f
        have ha : acc = (xs.take i).filterMap f := ha
        rw [et, List.filterMap_append, ← ha, List.filterMap_cons, hc.2 z]; simp, fun acc ha => by
    have ha : acc = (xs.take ds.length).filterMap f := ha
    rw [ha, ed, List.length_map, List.take_length]
    exact hp⟩
theorem fm_map {α β : Type} (xs : List α) (f : α → β) : (xs.filterMap fun x => some (f x)) = xs.map f := by
  induction xs with
  | nil => rfl
  | cons a r ih => rw [List.filterMap_cons, List.map_cons]; simp [ih]
theorem isNon_str (s : Str) (w : V) : D.str s ≠ .clv w := by intro z; cases z
theorem ncl_int (s : Int) (w : V) : D.int s ≠ .clv w := by intro z; cases z
theorem ncl_non (w : V) : D.non ≠ .clv w := by intro z; cases z
theorem oD_none : oD none = .non := rfl
theorem oD_some (i : Int) : oD (some i) = .int i := rfl
theorem flat_oD (a : Option Int) : Flat (oD a) := by cases a <;> trivial
end
end Z

/-! Zq: rows of two texts and two ints sorted, extend, text times int, dict stores as targets -/
namespace SrtO
open PySem PyProof.Rows Srt
theorem lex_swo {α κ : Type} [DecidableEq κ] (f : α → κ) (l : κ → κ → Bool) (r : α → α → Bool) (ha : ∀ a b, l a b = true → l b a = false) (ht : ∀ a b c, l a b = true → l b c = true → l a c = true) (hn : ∀ a b, a ≠ b → l a b = false → l b a = true) (R : Swo r) :
    Swo fun x y => if f x = f y then r x y else l (f x) (f y) := by
  have irr : ∀ a, l a a = false := fun a => by
    cases e : l a a with
    | false => rfl
    | true => exact absurd e (by rw [ha a a e]; decide)
  refine ⟨fun x y h => ?_, fun x y z h1 h2 => ?_⟩
  · show (if f y = f x then r y x else l (f y) (f x)) = false
    have h : (if f x = f y then r x y else l (f x) (f y)) = true := h
    by_cases e : f x = f y
    · rw [if_pos e] at h
      rw [if_pos e.symm]
      exact R.asym _ _ h
    · rw [if_neg e] at h
      rw [if_neg (Ne.symm e)]
      exact ha _ _ h
  · show (if f z = f x then r z x else l (f z) (f x)) = false
    have h1 : (if f y = f x then r y x else l (f y) (f x)) = false := h1
    have h2 : (if f z = f y then r z y else l (f z) (f y)) = false := h2
    by_cases e1 : f y = f x
    · rw [if_pos e1] at h1
      by_cases e2 : f z = f y
      · rw [if_pos e2] at h2
        rw [if_pos (e2.trans e1)]
        exact R.tr _ _ _ h1 h2
      · rw [if_neg e2] at h2
        rw [if_neg (fun q => e2 (q.trans e1.symm)), ← e1]
        exact h2
    · rw [if_neg e1] at h1
      have k1 := hn _ _ e1 h1
      by_cases e2 : f z = f y
      · rw [if_pos e2] at h2
        rw [if_neg (fun q => e1 (e2.symm.trans q)), e2]
        exact h1
      · rw [if_neg e2] at h2
        have k2 := hn _ _ e2 h2
        have k3 := ht _ _ _ k1 k2
        rw [if_neg (fun q => by rw [q, irr] at k3; cases k3)]
        exact ha _ _ k3
abbrev ltSB (a b : PySem.Str) : Bool := decide (a.cps.toList < b.cps.toList)
theorem strE {x y : PySem.Str} (h : x.cps.toList = y.cps.toList) : x = y := by
  cases x; cases y
  congr
  exact Array.toList_inj.mp h
theorem ltSB_asym : ∀ a b, ltSB a b = true → ltSB b a = false := fun a b h => decide_eq_false fun q => absurd (List.lt_trans (of_decide_eq_true h) q) (List.lt_irrefl _)
theorem ltSB_tr : ∀ a b c, ltSB a b = true → ltSB b c = true → ltSB a c = true := fun a b c h k => decide_eq_true (List.lt_trans (of_decide_eq_true h) (of_decide_eq_true k))
theorem ltSB_tot : ∀ a b, a ≠ b → ltSB a b = false → ltSB b a = true := fun a b n h => by
  refine decide_eq_true ?_
  by_cases c : b.cps.toList < a.cps.toList
  · exact c
  · exact absurd (strE (List.le_antisymm (List.not_lt.mp c) (List.not_lt.mp (of_decide_eq_false h)))) n
abbrev Qd := PySem.Str × PySem.Str × Int × Int
def ltQ (a b : Qd) : Bool := if a.1 = b.1 then (if a.2.1 = b.2.1 then (if a.2.2.1 = b.2.2.1 then decide (a.2.2.2 < b.2.2.2) else decide (a.2.2.1 < b.2.2.1)) else ltSB a.2.1 b.2.1) else ltSB a.1 b.1
theorem ltQ_swo : Swo ltQ := by
  refine lex_swo (fun q : Qd => q.1) ltSB _ ltSB_asym ltSB_tr ltSB_tot ?_
  refine lex_swo (fun q : Qd => q.2.1) ltSB _ ltSB_asym ltSB_tr ltSB_tot ?_
  refine lex_swo (fun q : Qd => q.2.2.1) (fun a b => decide (a < b)) _ (fun a b h => ?_) (fun a b c h k => ?_) (fun a b h k => ?_) ?_
  · have := of_decide_eq_true h
    exact decide_eq_false (by omega)
  · have h1 := of_decide_eq_true h
    have h2 := of_decide_eq_true k
    exact decide_eq_true (by omega)
  · have h2 := of_decide_eq_false k
    exact decide_eq_true (by omega)
  · refine ⟨fun x y h => ?_, fun x y z h k => ?_⟩
    · have := of_decide_eq_true h
      exact decide_eq_false (by omega)
    · have h1 := of_decide_eq_false h
      have h2 := of_decide_eq_false k
      exact decide_eq_false (by omega)
theorem swo_ltQ {α : Type} (k : α → Qd) : Swo fun v u => ltQ (k v) (k u) := ⟨fun _ _ h => ltQ_swo.asym _ _ h, fun _ _ _ h1 h2 => ltQ_swo.tr _ _ _ h1 h2⟩
def IsQd (h : Heap) (v : Value) (q : Qd) : Prop := ∃ a o t1 t2 t3 t4 n, v = .ref a ∧ h.get? a = some o ∧ o.cls = .type "tuple" ∧ o.data = .seq #[.str q.1 t1, .str q.2.1 t2, .int q.2.2.1 t3, .int q.2.2.2 t4] n
theorem IsQd.keeps {h h' : Heap} {v : Value} {q : Qd} (p : IsQd h v q) (k : ∀ b o, h.get? b = some o → o.cls = .type "tuple" → h'.get? b = some o) : IsQd h' v q := by
  obtain ⟨a, o, t1, t2, t3, t4, n, e, ho, hc, hd⟩ := p
  exact ⟨a, o, t1, t2, t3, t4, n, e, k _ _ ho hc, hc, hd⟩
section
variable {prog : Program} {w : World} {A : Around} {E : Value → Shared → Prop} {s : Shared}
theorem str_beq {x y : PySem.Str} (h : (x == y) = true) : x = y := eq_of_beq h
theorem str_bne {x y : PySem.Str} (h : (x == y) = false) : ¬ x = y := fun e => by rw [e] at h; simp at h
theorem qd_cmp {vs : List Value} {k : Value → Qd} (hp : ∀ v ∈ vs, IsQd s.heap v (k v)) : Cmp prog w A s (tuples' true) (fun p => p.1 ∈ vs) (lt2 fun v u => ltQ (k v) (k u)) := by
  intro p q hm hm'
  have h1 := hp _ hm
  have h2 := hp _ hm'
  show wpAny (model prog w) A (keyLt' (tuples' true) p.1 q.1) (fun r s' => s' = s ∧ r = ltQ (k p.1) (k q.1)) (fun _ _ => False) s
  generalize k p.1 = q1 at h1 ⊢
  generalize k q.1 = q2 at h2 ⊢
  obtain ⟨x, y, z, u⟩ := q1
  obtain ⟨x', y', z', u'⟩ := q2
  unfold ltQ
  dsimp only
  obtain ⟨a, o, t1, t2, t3, t4, n, e, ho, hc, hd⟩ := h1
  obtain ⟨a', o', t1', t2', t3', t4', n', e', ho', hc', hd'⟩ := h2
  rw [e, e']
  refine PySem.W.kat_lt ho hd ho' hd' ?_
  show PySem.W.KatLex prog w A true (decide (4 < 4)) _ [(.str x t1, .str x' t1'), (.str y t2, .str y' t2'), (.int z t3, .int z' t3'), (.int u t4, .int u' t4')] 0 s
  refine PySem.W.kat_cons (SeqAt.EqAt.str_str x t1 x' t1' prog w _ _ ?_)
  refine PySem.W.kat_go (fun e1 => ?_) (fun e1 => ?_)
  · have ex : x = x' := str_beq e1
    rw [if_pos ex]
    refine PySem.W.kat_yes (PySem.W.kat_cons (SeqAt.EqAt.str_str y t2 y' t2' prog w _ _ ?_))
    refine PySem.W.kat_go (fun e2 => ?_) (fun e2 => ?_)
    · have ey : y = y' := str_beq e2
      rw [if_pos ey]
      refine PySem.W.kat_yes (PySem.W.kat_cons (SeqAt.EqAt.int_int z t3 z' t3' prog w _ _ ?_))
      refine PySem.W.kat_go (fun e3 => ?_) (fun e3 => ?_)
      · have ez : z = z' := by simpa using e3
        rw [if_pos ez]
        refine PySem.W.kat_yes (PySem.W.kat_cons (SeqAt.EqAt.int_int u t4 u' t4' prog w _ _ ?_))
        refine PySem.W.kat_go (fun e4 => ?_) (fun e4 => ?_)
        · have eu : u = u' := by simpa using e4
          refine PySem.W.kat_yes (PySem.W.kat_nil ⟨rfl, ?_⟩)
          rw [eu]
          exact (decide_eq_false (Int.lt_irrefl _)).symm
        · exact PySem.W.kat_no (PySem.W.kat_one _ _ (PyProof.Rows.lt_int (show s = s ∧ decide (u < u') = decide (u < u') from ⟨rfl, rfl⟩)))
      · have ez : ¬ z = z' := by simpa using e3
        rw [if_neg ez]
        exact PySem.W.kat_no (PySem.W.kat_one _ _ (PyProof.Rows.lt_int (show s = s ∧ decide (z < z') = decide (z < z') from ⟨rfl, rfl⟩)))
    · have ey : ¬ y = y' := str_bne e2
      rw [if_neg ey]
      exact PySem.W.kat_no (PySem.W.kat_one _ _ (PySem.P.lt_str (show s = s ∧ decide (y.cps.toList < y'.cps.toList) = ltSB y y' from ⟨rfl, rfl⟩)))
  · have ex : ¬ x = x' := str_bne e1
    rw [if_neg ex]
    exact PySem.W.kat_no (PyProof.Rows.oneLt_str ⟨rfl, rfl⟩)
theorem firsts_qd {h : Heap} : ∀ {vs : List Value}, (∀ v ∈ vs, ∃ q, IsQd h v q) → ∃ fs : List Value, PySem.W.KatTups h vs fs ∧ fs.length = vs.length ∧ ∀ f ∈ fs, ∃ x t, f = Value.str x t
  | [], _ => ⟨[], PySem.W.KatTups.nil, rfl, fun _ hm => by simp at hm⟩
  | v :: vs, hp => by
    obtain ⟨fs, h1, h2, h3⟩ := firsts_qd (vs := vs) fun v' hm => hp v' (List.mem_cons_of_mem _ hm)
    obtain ⟨q, a, o, t1, t2, t3, t4, n, e, ho, hc, hd⟩ := hp v (List.mem_cons_self ..)
    subst e
    refine ⟨.str q.1 t1 :: fs, PySem.W.KatTups.cons ho hc hd rfl h1, by rw [List.length_cons, List.length_cons, h2], fun f hm => ?_⟩
    rcases List.mem_cons.mp hm with rfl | hm
    · exact ⟨_, _, rfl⟩
    · exact h3 f hm
theorem qds_sortable {a : Addr} {vs : List Value} {k : Value → Qd} (h0 : 0 < vs.length) (hp : ∀ v ∈ vs, IsQd s.heap v (k v)) (ha : ∀ o, s.heap.get? a = some o → o.cls ≠ .type "tuple") : SortableO prog w A s a vs fun v u => ltQ (k v) (k u) := by
  intro h' keep
  have hp' : ∀ v ∈ vs, IsQd h' v (k v) := fun v hm => (hp v hm).keeps fun b o e c => keep b o (fun z => by subst z; exact ha o e c) e
  obtain ⟨fs, h1, h2, h3⟩ := firsts_qd fun v hm => ⟨_, hp' v hm⟩
  refine ⟨tuples' true, fun Q E hq => ?_, qd_cmp hp'⟩
  refine PySem.W.kat_kind (T := .type "str") h1 (by omega) (fun f hm => ?_) (by rfl) ?_
  · obtain ⟨x, t, rfl⟩ := h3 f hm
    exact PySem.W.Looks.now
  · have e : (Value.type "str" != Value.type "tuple") = true := by first | decide +kernel | rfl | decide
    rw [e]
    exact hq
theorem sorted_qds {l : Addr} {vs : List Value} {k : Value → Qd} {Q : Value → Shared → Prop} (hl : s.heap.IsList l vs.toArray) (hz : vs.length ≤ sizeLine) (hp : ∀ v ∈ vs, IsQd s.heap v (k v))
    (h : ∀ (h' : Heap) (d : Addr) (out : List Value), Srtd (fun v u => ltQ (k v) (k u)) out → Stb (fun v u => ltQ (k v) (k u)) out vs → (∀ b o, s.heap.get? b = some o → h'.get? b = some o) → s.heap.objs.size ≤ d → (∃ n, h'.get? d = some (seqObj "list" out.toArray n)) → Q (.ref d) { s with heap := h' }) :
    wpAny (model prog w) A (call (.builtin "sorted") [.ref l]) Q E s := by
  refine sorted_ord (swo_ltQ k) hl hz (fun h2 h₁ a ha kk => ?_) fun out hs hb => ?_
  · refine qds_sortable (s := { s with heap := h₁ }) (by omega) (fun v hm => (hp v hm).keeps fun b o e _ => (kk b o e).2) fun o e => ?_
    have e' : some o = some (seqObj "list" vs.toArray 0) := e.symm.trans ha
    cases e'
    intro c
    exact absurd (Value.type.inj c) (by decide)
  · exact h _ _ out hs hb (fun b o e => sortedAll_old e) (Nat.le_succ _) (sortedAll_at s.heap vs out.toArray)
end
end SrtO
namespace L2
open PySem PySem.Spec PyProof.Rows
def qdV (q : SrtO.Qd) : List V := [.str q.1, .str q.2.1, .int q.2.2.1, .int q.2.2.2]
def rSortedQ (K : PySem.W.Frag) : List V → Hp → VK → Prop := fun vs H Q => ∃ (a : Addr) (xs : List V) (k : V → SrtO.Qd), vs = [V.ref a] ∧ SqL K H a xs ∧ (∀ x ∈ xs, ∃ t, x = V.ref t ∧ H t = some (.tup (qdV (k x)))) ∧
  ∀ ys p, SrtO.Srtd (fun v u => SrtO.ltQ (k v) (k u)) ys → ys.Perm xs → H p = none → Q (.ref p) (upd H p (.lst ys))
theorem vals4 {a b c d : V} {us : List Value} (r : Vals [a, b, c, d] us) : ∃ u1 u2 u3 u4, us = [u1, u2, u3, u4] ∧ RelV a u1 ∧ RelV b u2 ∧ RelV c u3 ∧ RelV d u4 := by
  cases r with
  | cons r1 r => cases r with
  | cons r2 r => cases r with
  | cons r3 r => cases r with
  | cons r4 r => cases r; exact ⟨_, _, _, _, rfl, r1, r2, r3, r4⟩
theorem cr_sortedQ {X : Cx} : CallR X (.builtin "sorted") (rSortedQ X.K) := by
  intro pins s σ H vs us Q I r h
  obtain ⟨a, xs, k, rfl, hs, hx, q⟩ := h
  obtain ⟨its, rv, hl, hz⟩ := I.list hs
  obtain ⟨u, rfl, ru⟩ := vals1 r
  obtain rfl : u = Value.ref a := ru
  obtain ⟨e1, e2⟩ := refs_back rv fun x m => by
    obtain ⟨t, e, _⟩ := hx x m
    exact ⟨t, e⟩
  refine SrtO.sorted_qds (k := fun u => k (backV u)) hl.isList (by rw [← rv.length]; exact hz) (fun v hv => ?_) fun h' d out h1 h2 kp hd hn => ?_
  · obtain ⟨t, rfl⟩ := e2 v hv
    have hm : V.ref t ∈ xs := by rw [e1]; exact List.mem_map.mpr ⟨_, hv, rfl⟩
    obtain ⟨t', e, ht⟩ := hx _ hm
    cases e
    obtain ⟨_, its2, r2, o, ho, hc, n, hd⟩ := I.hok _ _ ht
    obtain ⟨u1, u2, u3, u4, rfl, ri, rj, rk, rl⟩ := vals4 r2
    obtain ⟨t1, rfl⟩ := ri
    obtain ⟨t2, rfl⟩ := rj
    obtain ⟨t3, rfl⟩ := rk
    obtain ⟨t4, rfl⟩ := rl
    exact ⟨t, o, t1, t2, t3, t4, n, rfl, ho, hc, hd⟩
  · have h3 : ∀ u ∈ out, ∃ a, u = Value.ref a := fun u hu => e2 u (h2.perm.mem_iff.mp hu)
    obtain ⟨n, hn⟩ := hn
    have hb : (out.map backV).Perm xs := by
      rw [e1]
      exact h2.perm.map backV
    refine ⟨.ref d, upd H d (.lst (out.map backV)), I.laid (t' := s.toks) kp hd ⟨?_, out, n, vals_back h3, hn⟩, rfl, q _ d (SrtO.srtd_map (f := backV) (lt := fun v u => SrtO.ltQ (k v) (k u)) h1) hb (I.hok.fresh hd)⟩
    rw [hb.length_eq]
    exact hz
/-- sorted(xs): texts, whole numbers, or rows of two texts and two whole numbers -/
def rSortedU (K : PySem.W.Frag) : List V → Hp → VK → Prop := fun vs H Q => rSortedS K vs H Q ∨ (rSortedI K vs H Q ∨ rSortedQ K vs H Q)
theorem call_sortedU {X : Cx} : CallR X (.builtin "sorted") (rSortedU X.K) := CallR.or cr_sortedS (CallR.or cr_sortedI cr_sortedQ)
/-- c * n, c one sign -/
def rMulS : R2 := fun x y H Q => ∃ (c : Nat) (n : Int), x = .str ⟨#[c]⟩ ∧ y = .int n ∧ 0 ≤ n ∧ n ≤ 1000 ∧ Q (.str ⟨(List.replicate n.toNat c).toArray⟩) H
theorem op_mulS {X : Cx} : OpR X (binaryOp .Mult) rMulS := by
  intro pins s σ H x y v u Q I rx ry h
  obtain ⟨c, n, rfl, rfl, h0, h1, q⟩ := h
  obtain ⟨t, rfl⟩ := rx
  obtain ⟨t', rfl⟩ := ry
  have hm : Txt.mul ⟨#[c]⟩ n = ⟨(List.replicate n.toNat c).toArray⟩ := SrtO.strE (by rw [PyProof.Rows.mul_one_list])
  have hl1 : ((⟨#[c]⟩ : Str)).length = 1 := rfl
  refine PySem.SB.mul ⟨?_, fun h2 _ => ?_, fun h2 _ => ?_⟩ fun t' k => ⟨.str (Txt.mul ⟨#[c]⟩ n), H, I.tok _, ⟨_, rfl⟩, by rw [hm]; exact q⟩
  · rw [decide_eq_false (by omega), decide_eq_false (by omega)]; rfl
  · rw [hl1]
    have : (1 : Int) ≤ (2 ^ 63 - 1) / n := by
      refine (Int.le_ediv_iff_mul_le (by omega)).mpr ?_
      omega
    omega
  · rw [hl1]
    refine decide_eq_false ?_
    rw [sizeLine_eq]
    omega
end L2
namespace Z
open PySem PySem.Spec PyProof.Rows L2
section
variable {K : PySem.W.Frag} {b : Bool} {δ : Sl} {Φ Ψ : D → Prop} {ta tb tc te tk : TE} {A : Act} {M : AS} {H : Hp} {σ : L2.St} {o : OC}
theorem os_mulS {c : Nat} {n : Int} (h0 : 0 ≤ n) (h1 : n ≤ 1000) (h : Φ (.str ⟨(List.replicate n.toNat c).toArray⟩)) : OpS K rMulS (.str ⟨#[c]⟩) (.int n) Φ := fun M W H vx vy s rx ry Q q => by
  cases rx; cases ry
  exact ⟨c, n, rfl, rfl, h0, h1, q _ H _ Fr.refl (.str _) h⟩
theorem cs_sortS {ns : List Str} (hl : ns.length < 64) (h : ∀ ys : List Str, ys.Perm ns → sortedS ys = true → Φ (.lst (ys.map D.str))) : CbS K (rSortedU K) [.dat (.lst (ns.map D.str))] Φ := fun M W H vs st r Q q => .inl (cs_sortedS hl h M W H vs st r Q q)
theorem cs_sortI {ns : List Int} (h : ∀ ys : List Int, ys.Perm ns → ys.Pairwise (· ≤ ·) → Φ (.lst (ys.map D.int))) : CbS K (rSortedU K) [.dat (.lst (ns.map D.int))] Φ := fun M W H vs st r Q q => by
  cases r with
  | dat r1 r2 =>
    cases r2
    cases r1 with
    | lst ha n rl =>
      have e1 := rl.ints
      subst e1
      refine .inr (.inl ⟨_, ns, rfl, .inl (.inl ha), fun ys p hp hs hn => ?_⟩)
      exact q _ _ _ (mk_fr st hn) (mk_lst st (RepL.ofInts ys) hn) (h ys hp hs)
abbrev Qd := SrtO.Qd
def qdD (q : Qd) : D := .tup [.str q.1, .str q.2.1, .int q.2.2.1, .int q.2.2.2]
def qdOf (H : Hp) : V → Qd
  | .ref a => match H a with
    | some (.tup [.str x, .str y, .int i, .int j]) => (x, y, i, j)
    | _ => (Str.empty, Str.empty, 0, 0)
  | _ => (Str.empty, Str.empty, 0, 0)
theorem rep_qd {v : V} {q : Qd} (r : Rep K M H v (qdD q)) : qdOf H v = q ∧ ∃ t, v = .ref t ∧ H t = some (.tup (qdV q)) ∧ ¬ M t := by
  cases r with
  | tup ha n rl =>
    cases rl with
    | cons r1 rl => cases rl with
    | cons r2 rl => cases rl with
    | cons r3 rl => cases rl with
    | cons r4 rl =>
      cases rl; cases r1; cases r2; cases r3; cases r4
      refine ⟨?_, _, rfl, ha, n⟩
      show (match H _ with
        | some (HO.tup [V.str x, V.str y, V.int i, V.int j]) => (x, y, i, j)
        | _ => (Str.empty, Str.empty, 0, 0)) = q
      rw [ha]
theorem repL_qd : ∀ {vs : List V} {ls : List Qd}, RepL K M H vs (ls.map qdD) → vs.map (qdOf H) = ls ∧ ∀ v ∈ vs, ∃ t, v = .ref t ∧ H t = some (.tup (qdV (qdOf H v))) ∧ ¬ M t
  | _, [], .nil => ⟨rfl, fun v hv => by cases hv⟩
  | _, q :: ls, .cons r rl => by
    obtain ⟨e1, h1⟩ := repL_qd rl
    obtain ⟨e2, t, e3, ht, nm⟩ := rep_qd r
    refine ⟨by rw [List.map_cons, e1, e2], fun v hv => ?_⟩
    rcases List.mem_cons.mp hv with rfl | hv
    · exact ⟨t, e3, by rw [e2]; exact ht, nm⟩
    · exact h1 v hv
theorem qd_repL : ∀ {vs : List V}, (∀ v ∈ vs, ∃ t, v = .ref t ∧ H t = some (.tup (qdV (qdOf H v))) ∧ ¬ M t) → RepL K M H vs ((vs.map (qdOf H)).map qdD)
  | [], _ => .nil
  | v :: vs, h => by
    obtain ⟨t, e, ht, nm⟩ := h v List.mem_cons_self
    refine .cons ?_ (qd_repL fun u hu => h u (List.mem_cons_of_mem _ hu))
    subst e
    exact .tup ht nm (.cons (.str _) (.cons (.str _) (.cons (.int _) (.cons (.int _) .nil))))
theorem cs_sortQ {ls : List Qd} (h : ∀ ys : List Qd, ys.Perm ls → ys.Pairwise (fun x y => SrtO.ltQ y x = false) → Φ (.lst (ys.map qdD))) : CbS K (rSortedU K) [.dat (.lst (ls.map qdD))] Φ := fun M W H vs st r Q q => by
  cases r with
  | dat r1 r2 =>
    cases r2
    cases r1 with
    | lst ha n rl =>
      obtain ⟨e1, h1⟩ := repL_qd rl
      refine .inr (.inr ⟨_, _, qdOf H, rfl, .inl (.inl ha), fun x hx => ?_, fun ys p hs hp hn => ?_⟩)
      · obtain ⟨t, e, ht, _⟩ := h1 x hx
        exact ⟨t, e, ht⟩
      · refine q _ _ _ (mk_fr st hn) (mk_lst st (qd_repL fun v hv => h1 v (hp.mem_iff.mp hv)) hn) (h _ ?_ ?_)
        · rw [← e1]; exact hp.map _
        · exact List.pairwise_map.mpr hs
/-- xs.extend(ys) -/
theorem ws_ext {i : Nat} {xs : List D} (e : δ[i]? = some (some (.own xs))) (h : WE K true te δ fun d => ∃ ys, d = .lst ys ∧ xs.length + ys.length ≤ 100000 ∧ o.nx (δ.set i (some (.own (xs ++ ys))))) :
    WS K (tDrop (tBM K "list" rExtend (tVar i) (tCons te tNil))) δ o := fun A M H σ S De n b c r => by
  obtain ⟨v, h1, a, vs, rfl, m, g, ha, rl⟩ := S.slot i _ e
  refine ⟨_, h1, .inl ⟨rfl, _, .inl (.inl ha)⟩, h A M H σ S _ fun w H1 d f1 r1 ⟨ys, ed, hz, p⟩ => ?_⟩
  subst ed
  have S1 := S.step f1
  obtain ⟨v2, h2, a2, vs2, e2, m2, g2, ha2, rl2⟩ := S1.slot i _ e
  rw [h1] at h2
  cases h2
  cases e2
  cases r1 with
  | @lst a3 ws _ hb nb rl3 =>
    refine ⟨a, a3, vs2, ws, rfl, rfl, ha2, hb, by rw [rl2.length, rl3.length]; exact sz100 hz, ?_⟩
    have mv : Mv M H1 M (upd H1 a (.lst (vs2 ++ ws))) := fun b nb hb => ⟨Kp.of fun oo eo => by rw [upd_ne (fun z : b = a => nb (by rw [z]; exact m))]; exact eo, nb⟩
    obtain ⟨S2, e3⟩ := S1.own_upd (av' := .own (xs ++ ys)) (u := .lst (vs2 ++ ws)) e rfl rfl h1 m g2 ⟨a, _, rfl, m, g2, upd_same, (RepL.mv mv rl2).append (RepL.mv mv rl3)⟩
    exact n M _ σ _ ((S.ext f1).trans e3) S2 p
/-- xs[k] = .. as a target, xs a dict of one's own -/
theorem wg_dput {i : Nat} {kvs : List (Key × D)} {d : D} {Θ : Sl → Prop} (e : δ[i]? = some (some (.ownD kvs))) (hz : kvs.length < 100000) (h : WE K false tb δ fun y => ∃ k : Key, y = kD k ∧ Θ (δ.set i (some (.ownD (putD kvs k d))))) :
    WG K (gSub (tVar i) tb rSetD) d δ Θ := fun A M H σ v S r1 Q n => by
  obtain ⟨v2, h3, a, vs0, rfl, m0, g0, ha0, rl0⟩ := S.slot i _ e
  refine ⟨_, h3, h A M H σ S _ fun y H2 dy f2 r2 ⟨k, ey, p⟩ => ?_⟩
  subst ey
  have S2 := S.step f2
  obtain ⟨v4, h4, a2, vs, e4, m, g, ha, rl⟩ := S2.slot i _ e
  rw [h3] at h4
  cases h4
  cases e4
  have r1' := r1.fr f2 (fun a w => S.m0 a (S.w0 a w))
  have mv : Mv M H2 M (upd H2 a (.dK (putK vs k v))) := fun b nb hb => ⟨Kp.of fun oo eo => by rw [upd_ne (fun z : b = a => nb (by rw [z]; exact m))]; exact eo, nb⟩
  obtain ⟨S3, e3⟩ := S2.own_upd (av' := .ownD (putD kvs k d)) (u := .dK (putK vs k v)) e rfl rfl h3 m g ⟨a, _, rfl, m, g, upd_same, RepK.mv mv (rl.put r1')⟩
  refine ⟨a, _, rfl, .inl ⟨vs, k, ha, ?_, by rw [rl.length]; exact sz1000 hz, rfl⟩, n σ _ _ ((S.ext f2).trans e3) S3 p⟩
  cases k with
  | inl i => cases r2; rfl
  | inr s => cases r2; rfl
/-- {k: v}, one's own -/
theorem wp_disp1 {Θ : List AV → Prop} {tr : TA} (h : WE K true tk δ fun x => ∃ k : Key, x = kD k ∧ WE K true te δ fun y => WP K tr δ fun as => Θ (.ownD [(k, y)] :: as)) : WP K (tCons (tDisp [(tk, te)]) tr) δ Θ := fun A M H σ τ ε hl S Q q => by
  refine fun p hp => ?_
  have S1 := S.pushNew (av := .ownD []) (u := .dK []) hp rfl fun M' H' m g e => ⟨p, [], rfl, m, g, e, .nil⟩
  have S1a : Sat K A (grow M p) (upd H p (.dK [])) (σ ++ (τ ++ [some (.ref p)])) (δ ++ (ε ++ [some (.ownD [])])) := by simpa using S1
  have Sp := Sat.pre hl S1a
  refine h A (grow M p) _ σ Sp _ fun vk H1 x f1 r1 ⟨k, e, h2⟩ => h2 A (grow M p) H1 σ (Sp.step f1) _ fun vv H2 y f2 r2 pp => ?_
  subst e
  have S2 := (S1.step f1).step f2
  have st := S.st0 (b := true)
  have wp : ¬ A.W p := st.nw hp
  have at2 : H2 p = some (.dK []) := f2.kp p _ wp (f1.kp p _ wp upd_same)
  have kv : vk = kV k := by
    cases k with
    | inl i => cases r1; rfl
    | inr s => cases r1; rfl
  refine ⟨at2, [(k, vv)], by rw [kv]; rfl, by show 1 ≤ 15; decide, ?_⟩
  have eix : ((δ ++ ε) ++ [some (AV.ownD [])])[(δ ++ ε).length]? = some (some (AV.ownD [])) := by simp
  have hll : (σ ++ τ).length = (δ ++ ε).length := S.len
  have esx : ((σ ++ τ) ++ [some (V.ref p)])[(δ ++ ε).length]? = some (some (V.ref p)) := by rw [← hll]; simp
  obtain ⟨v5, h5, a5, vs5, e5, m5, g5, ha5, rl5⟩ := S2.slot _ _ eix
  rw [esx] at h5
  cases h5
  cases e5
  have mv : Mv (grow M p) H2 (grow M p) (upd H2 p (.dK (mergeK [] [(k, vv)]))) := fun a n _ => ⟨Kp.of fun o eo => by rw [upd_ne (fun z : a = p => n (.inr z))]; exact eo, n⟩
  obtain ⟨S3, e3⟩ := S2.own_upd (av' := .ownD [(k, y)]) (u := .dK (mergeK [] [(k, vv)])) eix rfl rfl esx m5 g5 ⟨p, _, rfl, m5, g5, upd_same, .cons (Rep.mv mv r2) .nil⟩
  have eset : ((δ ++ ε) ++ [some (AV.ownD [])]).set (δ ++ ε).length (some (.ownD [(k, y)])) = δ ++ (ε ++ [some (.ownD [(k, y)])]) := by
    rw [List.set_append_right _ _ (Nat.le_refl _), Nat.sub_self]; simp
  have eσ : (σ ++ τ) ++ [some (V.ref p)] = σ ++ (τ ++ [some (V.ref p)]) := by simp
  rw [eset, eσ] at S3
  refine pp A _ _ σ _ _ hl S3 _ fun vs M' H' as e S4 pr => q (.ref p :: vs) M' H' (.ownD [(k, y)] :: as) ?_ (by simpa using S4) pr
  exact ((((Ext.new hp).trans (S1.ext f1)).trans ((S1.step f1).ext f2)).trans e3).trans e
/-! ### tests on tuples -/
theorem inV_ints (s : Int) : ∀ ns : List Int, inV (.int s) (ns.map V.int) = decide (s ∈ ns)
  | [] => rfl
  | n :: ns => by
    have ih := inV_ints s ns
    unfold inV at ih ⊢
    rw [List.map_cons, List.any_cons, ih]
    show (n == s || decide (s ∈ ns)) = _
    by_cases e : s = n
    · subst e; simp
    · have e2 : (n == s) = false := beq_eq_false_iff_ne.mpr (Ne.symm e)
      rw [e2]
      simp [e]
theorem flat_ints : ∀ ns : List Int, (ns.map V.int).all flatV = true
  | [] => rfl
  | n :: ns => by
    rw [List.map_cons, List.all_cons, flat_ints ns]
    rfl
theorem os_in_tupS {s : Str} {ns : List Str} (h : Φ (.bl (decide (s ∈ ns)))) : OpS K (rInU K) (.str s) (.tup (ns.map D.str)) Φ := fun M W H vx vy st rx ry Q q => by
  cases rx
  cases ry with
  | tup ha n r =>
    have e1 := r.strs
    subst e1
    refine .inl ⟨_, _, rfl, .inr (.inl (.inl ha)), rfl, flat_strs ns, ?_⟩
    show Q (.bl (inV (.str s) (ns.map V.str))) H
    rw [inV_strs]
    exact q _ H _ Fr.refl (.bl _) h
theorem os_notIn_tupS {s : Str} {ns : List Str} (h : Φ (.bl (!decide (s ∈ ns)))) : OpS K (rNotInU K) (.str s) (.tup (ns.map D.str)) Φ := fun M W H vx vy st rx ry Q q => by
  cases rx
  cases ry with
  | tup ha n r =>
    have e1 := r.strs
    subst e1
    refine .inl ⟨_, _, rfl, .inr (.inl (.inl ha)), rfl, flat_strs ns, ?_⟩
    show Q (.bl (!inV (.str s) (ns.map V.str))) H
    rw [inV_strs]
    exact q _ H _ Fr.refl (.bl _) h
theorem os_notIn_tupI {s : Int} {ns : List Int} (h : Φ (.bl (!decide (s ∈ ns)))) : OpS K (rNotInU K) (.int s) (.tup (ns.map D.int)) Φ := fun M W H vx vy st rx ry Q q => by
  cases rx
  cases ry with
  | tup ha n r =>
    have e1 := r.ints
    subst e1
    refine .inl ⟨_, _, rfl, .inr (.inl (.inl ha)), rfl, flat_ints ns, ?_⟩
    show Q (.bl (!inV (.int s) (ns.map V.int))) H
    rw [inV_ints]
    exact q _ H _ Fr.refl (.bl _) h
end
end Z

/-! Zp: rows beside the empty row, pairs of ints -/
namespace Z
open PySem PySem.Spec PyProof.Rows L2
section
variable {K : PySem.W.Frag} {Φ : D → Prop}
theorem toPs_map {α : Type} (f : α → D) (g : α → PyData) : ∀ {xs : List α}, (∀ x ∈ xs, toP (f x) = some (g x)) → toPs (xs.map f) = some (xs.map g)
  | [], _ => by simp only [List.map_nil, toPs]
  | x :: xs, h => by
    rw [List.map_cons]
    simp only [toPs]
    rw [h x List.mem_cons_self, toPs_map f g fun y hy => h y (List.mem_cons_of_mem _ hy)]
    rfl
theorem canAll_map {α : Type} (g : α → PyData) : ∀ {xs : List α}, (∀ x ∈ xs, (g x).canLay0 = true ∧ (g x).depth ≤ 1) → PyData.canLayAll0 (xs.map g) = true ∧ PyData.depthAll (xs.map g) ≤ 1
  | [], _ => by simp [PyData.canLayAll0, PyData.depthAll]
  | x :: xs, h => by
    obtain ⟨h1, h2⟩ := canAll_map g fun y hy => h y (List.mem_cons_of_mem _ hy)
    obtain ⟨h3, h4⟩ := h x List.mem_cons_self
    rw [List.map_cons]
    simp only [PyData.canLayAll0, PyData.depthAll, h1, h3]
    exact ⟨rfl, by omega⟩
theorem shaped_lst {ps : List PyData} (h : PyData.canLayAll0 ps = true) (d : PyData.depthAll ps ≤ 60) : SeqAt.shaped (.list ps) = true ∧ SeqAt.shaped (.tuple ps) = true := by
  unfold SeqAt.shaped
  rw [PyData.canLay0, PyData.canLay0, h, PyData.depth, PyData.depth]
  constructor <;> (rw [decide_eq_true (by omega)]; rfl)
theorem eqv_nil (ps : List PyData) : PyData.eqvAll ps [] = decide (ps = []) := by
  cases ps <;> simp [PyData.eqvAll]
theorem os_ne_nilL {α : Type} {xs : List α} (f : α → D) (g : α → PyData) (hf : ∀ x ∈ xs, toP (f x) = some (g x)) (hc : ∀ x ∈ xs, (g x).canLay0 = true ∧ (g x).depth ≤ 1) (h : Φ (.bl (!decide (xs = [])))) : OpS K (rNeU K) (.lst (xs.map f)) (.lst []) Φ := by
  obtain ⟨h1, h2⟩ := canAll_map g hc
  refine os_ne_data (p := .list (xs.map g)) (q := .list []) (by simp only [toP, toPs_map f g hf]; rfl) (by simp only [toP, toPs]; rfl) (shaped_lst h1 (by omega)).1 (shaped_lst rfl (by simp [PyData.depthAll])).1 ?_
  rw [PyData.eqv, eqv_nil]
  simpa using h
theorem os_ne_nilT {α : Type} {xs : List α} (f : α → D) (g : α → PyData) (hf : ∀ x ∈ xs, toP (f x) = some (g x)) (hc : ∀ x ∈ xs, (g x).canLay0 = true ∧ (g x).depth ≤ 1) (h : Φ (.bl (!decide (xs = [])))) : OpS K (rNeU K) (.tup (xs.map f)) (.tup []) Φ := by
  obtain ⟨h1, h2⟩ := canAll_map g hc
  refine os_ne_data (p := .tuple (xs.map g)) (q := .tuple []) (by simp only [toP, toPs_map f g hf]; rfl) (by simp only [toP, toPs]; rfl) (shaped_lst h1 (by omega)).2 (shaped_lst rfl (by simp [PyData.depthAll])).2 ?_
  rw [PyData.eqv, eqv_nil]
  simpa using h
def prD (p : Int × Int) : D := .tup [.int p.1, .int p.2]
def prP (p : Int × Int) : PyData := .tuple [.int p.1, .int p.2]
theorem prP_to (p : Int × Int) : toP (prD p) = some (prP p) := by unfold prD prP; simp only [toP, toPs]; rfl
theorem prP_can (p : Int × Int) : (prP p).canLay0 = true ∧ (prP p).depth ≤ 1 := by
  unfold prP
  simp [PyData.canLay0, PyData.canLayAll0, PyData.depth, PyData.depthAll]
theorem prP_sh (p : Int × Int) : SeqAt.shaped (prP p) = true := by
  unfold SeqAt.shaped
  rw [(prP_can p).1, decide_eq_true (Nat.le_trans (prP_can p).2 (by decide))]; rfl
theorem os_ne_pr {p q : Int × Int} (h : Φ (.bl (!decide (p = q)))) : OpS K (rNeU K) (prD p) (prD q) Φ := by
  refine os_ne_data (prP_to p) (prP_to q) (prP_sh p) (prP_sh q) ?_
  have : PyData.eqv (prP p) (prP q) = decide (p = q) := by
    obtain ⟨a, b⟩ := p
    obtain ⟨c, d⟩ := q
    simp only [prP, PyData.eqv, PyData.eqvAll, Bool.and_true]
    by_cases h1 : a = c <;> by_cases h2 : b = d <;> simp [h1, h2]
  rw [this]
  exact h
theorem int_to (i : Int) : toP (.int i) = some (.int i) := by simp only [toP]
theorem int_can (i : Int) : (PyData.int i).canLay0 = true ∧ (PyData.int i).depth ≤ 1 := by simp [PyData.canLay0, PyData.depth]
theorem str_to (i : Str) : toP (.str i) = some (.str i) := by simp only [toP]
theorem str_can {z : Str} (h : ∀ c ∈ z.cps.toList, c < 0x110000) : (PyData.str z).canLay0 = true ∧ (PyData.str z).depth ≤ 1 := by
  have : PyData.strOk z = true := by
    unfold PyData.strOk
    rw [← Array.all_toList, List.all_eq_true]
    exact fun c hc => decide_eq_true (h c hc)
  simp [PyData.canLay0, PyData.depth, this]
end
end Z

/-! Zw: sorted(set(xs)), xs a list of texts. -/
namespace ZW
open PySem PySem.Spec PyProof.Rows L2 PySem.Calls PySem.Froz
/-- an empty set as it is made -/
def E0 (w : World) : Obj := { cls := .type "set", dict := none, data := .set #[] 0 (.fresh 0 0 (!w.params.followText "set-order")) }
structure Tx (P : Program) (w : World) (D : SD) (l : List Str) : Prop where
  ok : TxOk P w D l
  nd : l.Nodup
  ris : Ris D.2.2.place.toList
  led : w.params.followText "set-order" = true ∨ D.2.2.led = true
section
variable {P : Program} {w : World} {A : Around} {E : Value → Shared → Prop} {s : Shared}
theorem tail_ris {ep : Nat} {es : Array (Int × Value)} {t : SetTable} {d : Bool} (r : Ris t.place.toList) : Ris (tailTx ep es t d).2.2.place.toList := by
  unfold tailTx; split
  · exact relayAll_ris t es _
  · exact r
theorem tail_led {ep : Nat} {es : Array (Int × Value)} {t : SetTable} {d : Bool} : (tailTx ep es t d).2.2.led = t.led := by
  unfold tailTx; split
  · exact relayAll_led t es _
  · rfl
theorem Tx.add {D : SD} {l : List Str} {k : Str} (u : Tok) (F : Tx P w D l) (hk : k ∉ l) : Tx P w (addTx (hashStr w k) (.str k u) D) (k :: l) := by
  have hr := layNew_ris D.2.2 D.1 (hashStr w k) (.str k u) F.ris
  have hl := layNew_led D.2.2 D.1 (hashStr w k) (.str k u)
  refine ⟨add_ok u F.ok, List.nodup_cons.mpr ⟨hk, F.nd⟩, ?_, F.led.imp id fun z => ?_⟩
  · refine tail_ris ?_
    split <;> exact hr
  · unfold addTx; rw [tail_led]
    split <;> exact hl.trans z
theorem Tx.zero : Tx P w (#[], 0, .fresh 0 0 (!w.params.followText "set-order")) [] :=
  ⟨TxOk.nil (by rfl), List.nodup_nil, List.Pairwise.nil, by show _ ∨ (!w.params.followText "set-order") = true; cases w.params.followText "set-order" <;> simp⟩
theorem add_in {a : Addr} {D : SD} {l : List Str} {k : Str} {u : Tok} {Q : Bool → Shared → Prop} (ho : s.heap.get? a = some (sObj "set" D)) (F : TxOk P w D l) (hk : k ∈ l) (hb : l.length < scanBound)
    (h : Q false s) : wpAny (model P w) A (setAddHashed a (.str k u) (hashStr w k)) Q E s := by
  obtain ⟨es, ep, t⟩ := D
  have key : (strKind P w).is k (.str k u) = true := is_str k u
  have hb0 : es.size < scanBound := by rw [show es.size = l.length from F.sz]; exact hb
  have some' : ∃ j, List.findIdx? (fun e => (strKind P w).is k e.2) es.toList = some j := by
    cases hr : List.findIdx? (fun e => (strKind P w).is k e.2) es.toList with
    | some j => exact ⟨j, rfl⟩
    | none =>
      obtain ⟨e, he, q⟩ := (F.mem k).mp hk
      have := List.findIdx?_eq_none_iff.mp hr e he
      rw [q] at this; cases this
  obtain ⟨j, hj⟩ := some'
  unfold setAddHashed setAddHashedIn; refine wpAny_holding (wpAny_bind (wpAny_setState_of ho rfl F.fit ?_)); dsimp only
  rw [byScan_of rfl hb0 F.el]; simp only [↓reduceIte]
  unfold setAddByScan; refine wpAny_bind ?_; refine wpAny_bind (wpAny_rule ?_)
  refine wpAny_bind (wpAny_setScan_of (knd := strKind P w) (k := k) key ho rfl F.fit F.el ?_)
  rw [hj]; dsimp only
  exact wpAny_pure (wpAny_pure h)
/-- the loop of set(xs) -/
theorem fill {I : Addr} {fp wr : List Addr} {G : Array GenState → Array GenState → Prop} {n : Nat} {Pv : Nat → Value → Prop} {St : Nat → Shared → Prop} {R : Result → Shared → Prop}
    (W : WalksS P w A.in1 I fp wr G n Pv St) (S : Addr) (hSf : S ∉ fp) (xs : List Str) (hn : n = xs.length) (hb : xs.length + 1 < scanBound) (hv : ∀ i v, Pv i v → ∃ k t, xs[i]? = some k ∧ v = .str k t) :
    ∀ (k i : Nat) (s : Shared), n - i = k → i ≤ n → St i s → (∃ D l, s.heap.get? S = some (sObj "set" D) ∧ Tx P w D l ∧ l.length ≤ i ∧ ∀ z, z ∈ l ↔ z ∈ xs.take i) →
      (∀ s' D l, Moved (S :: wr) G s s' → s'.heap.get? S = some (sObj "set" D) → Tx P w D l → l.length ≤ n → (∀ z, z ∈ l ↔ z ∈ xs) → R (.ok (.ret .none)) s') →
      codeAny (model P w) A (.builtin "set.update.loop" ⟨[.ref S, .ref I], []⟩) R s := by
  have off : S ∉ wr := fun h => hSf (W.sub _ h)
  have sub' : ∀ b ∈ wr, b ∈ S :: wr := fun b hb => List.mem_cons_of_mem _ hb
  intro k
  induction k with
  | zero =>
    intro i s hk' hi hst ⟨D, l, ho, F, hl, hm⟩ hR
    obtain rfl : i = n := by omega
    refine codeAny_builtin PyProof.Rows.F.entry_set_update_loop ?_; rw [Around.under_plainId PyProof.Rows.F.plain_set_update_loop _]
    show wpAny _ A.in1 (pyNext (.ref I) >>= _) _ _ s; refine wpAny_bind (W.done s _ _ hst fun s' hm' => ?_)
    show wpAny _ A.in1 (ret Value.none) _ _ s'
    refine wpAny_pure (hR s' D l (hm'.mono sub') (hm'.heap S _ off ho) F hl fun z => ?_)
    rw [hm z, List.take_of_length_le (by omega)]
  | succ k ih =>
    intro i s hk' hi hst ⟨D, l, ho, F, hl, hm⟩ hR
    have lt : i < n := by omega
    refine codeAny_builtin PyProof.Rows.F.entry_set_update_loop ?_; rw [Around.under_plainId PyProof.Rows.F.plain_set_update_loop _]
    show wpAny _ A.in1 (pyNext (.ref I) >>= _) _ _ s; refine wpAny_bind (W.item i s _ _ lt hst fun v s' hP hst' hm' => ?_)
    obtain ⟨x, t, hx, rfl⟩ := hv i v hP
    have ho' := hm'.heap S _ off ho
    show wpAny _ A.in1 (holding [Value.str x t] (setAdd S (.str x t)) >>= _) _ _ s'
    refine wpAny_bind (wpAny_holding ?_); unfold setAdd; refine wpAny_holding ?_
    refine wpAny_bind ((strKind P w).pyHash (k := x) (is_str _ _) ?_)
    have tk : xs.take (i + 1) = xs.take i ++ [x] := by rw [List.take_add_one, hx]; rfl
    by_cases c : x ∈ l
    · refine add_in (s := { s' with toks := s'.toks + 1 }) ho' F.ok c (by omega) (wpAny_pure ⟨plainId_quiet PyProof.Rows.F.plain_set_update_loop _, ?_⟩)
      refine ih (i + 1) _ (by omega) lt (W.frame _ s' _ _ hst' (Nat.le_succ _) fun b _ o e => e) ⟨D, l, ho', F, by omega, fun z => ?_⟩ fun s2 D2 l2 m2 o2 F2 n2 h2 => hR s2 D2 l2 (Moved.trans W.gtrans ((hm'.mono sub').then_heap (Nat.le_succ _) fun b o _ e => e) m2) o2 F2 n2 h2
      rw [tk, List.mem_append, hm z, List.mem_singleton]
      exact ⟨.inl, fun q => q.elim id fun e => by rw [e]; exact (hm x).mp c⟩
    · refine add_x (s := { s' with toks := s'.toks + 1 }) ho' F.ok c (by omega) (wpAny_pure ⟨plainId_quiet PyProof.Rows.F.plain_set_update_loop _, ?_⟩)
      have kb : ∀ b o, b ≠ S → s'.heap.get? b = some o → (s'.heap.update S (fun _ => sObj "set" (addTx (hashStr w x) (.str x t) D))).get? b = some o := fun b o hb e => (Heap.get?_update_other _ _ (Ne.symm hb)).trans e
      refine ih (i + 1) _ (by omega) lt (W.frame _ s' _ _ hst' (Nat.le_succ _) fun b hb o e => kb b o (fun h => hSf (by rw [← h]; exact hb)) e) ⟨_, x :: l, get_upd _ ho' rfl, F.add t c, by simp; omega, fun z => ?_⟩ fun s2 D2 l2 m2 o2 F2 n2 h2 =>
        hR s2 D2 l2 (Moved.trans W.gtrans ((hm'.mono sub').then_heap (Nat.le_succ _) fun b o hb e => kb b o (fun h => hb (by rw [h]; exact List.mem_cons_self)) e) m2) o2 F2 n2 h2
      rw [tk, List.mem_append, ← hm z, List.mem_singleton, List.mem_cons]
      exact Or.comm
/-- set(xs), xs a list of texts -/
theorem set_of {l : Addr} {items : Array Value} (xs : List Str) {Q : Value → Shared → Prop} (hh : A.handled = none) (hl : s.heap.IsList l items) (hit : StrsAre items.toList xs) (hb : xs.length + 1 < scanBound)
    (h : ∀ (h' : Heap) (tk : Nat) D ys, h'.get? s.heap.objs.size = some (sObj "set" D) → Tx P w D ys → ys.length ≤ xs.length → (∀ z, z ∈ ys ↔ z ∈ xs) → (∀ b o, s.heap.get? b = some o → h'.get? b = some o) → Q (.ref s.heap.objs.size) { s with heap := h', toks := tk }) :
    wpAny (model P w) A (call (.type "set") [.ref l]) Q E s := by
  have isz : items.size = xs.length := by rw [← StrsAre.len_eq hit, Array.length_toList]
  obtain ⟨c, tl, hmro⟩ := PySem.F.called_set.mro
  have m1 := PySem.F.called_set.made; have m2 := PySem.F.called_set.sub
  refine wpAny_call (codeAny_of_tree ?_); show wpAny _ _ (callAny (.type "set") _) _ _ _
  refine wpAny_pure ⟨Code.quiet_builtin _ (by decide +kernel), codeAny_builtin PySem.F.entry_type_call ?_⟩
  rw [Around.under_plain (weight_type_call_type "set" [.ref l] []) rfl]
  have h1 := PySem.F.called_set.notType; have h2 := PySem.F.called_set.canCreate; have hct := PySem.F.typeCall_set_1 (.ref l)
  repeat (any_goals (first | assumption | wp_step))
  refine codeAny_mono (code_set_led1 (.ref l) (E := E) (Q₁ := fun obj s₁ => obj = .ref s.heap.objs.size ∧ s₁ = { s with heap := s.heap.push (E0 w) }) ⟨rfl, rfl⟩) fun r s₁ hr => ?_
  cases r with
  | error e => exact hr
  | ok fl =>
    cases fl with
    | ret obj =>
      obtain ⟨rfl, rfl⟩ := hr
      have hS : (s.heap.push (E0 w)).get? s.heap.objs.size = some (E0 w) := Heap.get?_push_size _ rfl
      have hT : Shared.TypeIs { s with heap := s.heap.push (E0 w) } (.ref s.heap.objs.size) "set" := ⟨_, hS, rfl⟩
      have hli := PySem.F.called_set.init.lookup; have hbi := PySem.F.called_set.init.bind (.ref s.heap.objs.size)
      repeat (any_goals (first | assumption | wp_step))
      refine codeAny_mono (codeAny_call_builtin (R := wants (fun r s₂ => r = .none ∧ ∃ h' tk D ys, s₂ = { s with heap := h', toks := tk } ∧ h'.get? s.heap.objs.size = some (sObj "set" D) ∧ Tx P w D ys ∧ ys.length ≤ xs.length ∧ (∀ z, z ∈ ys ↔ z ∈ xs) ∧
          (∀ b o, s.heap.get? b = some o → h'.get? b = some o)) E) PySem.F.called_set.init.plain PySem.F.entry_set_init (check_set_init_1 hT ?_)) fun r₂ s₂ hr₂ => ?_
      · obtain ⟨⟨ocls, odict, odata, oslots⟩, hol, hcl, nl, hdl⟩ := hl
        simp only at hcl hdl; subst hcl; subst hdl
        have hol' : (s.heap.push (E0 w)).get? l = some { cls := .type "list", dict := odict, data := .seq items nl, slots := oslots } := Heap.get?_push_of_some _ hol
        have s1 := PySem.F.sub_list_set; have s2 := PySem.F.sub_list_frozenset
        have nd : (Value.type "list" == Value.type "dict") = false := by decide
        have hl1 : (s.heap.push (E0 w)).IsList l items := ⟨_, hol', rfl, nl, rfl⟩
        unfold Builtin.«set.__init__» noKeywords Builtin.Frozenset.updateFrom; generalize hPI : pyIter = PI
        wp_walk
        subst hPI
        refine wpAny_pyIter_list hl1 ?_; refine wpAny_bind (wpAny_runValue ?_)
        have lS : l < s.heap.objs.size := Heap.lt_size hol
        have hh3 : A.in1.in1.in1.handled = none := by simp [hh]
        have ne1 : l ≠ (s.heap.push (E0 w)).objs.size := by rw [Heap.size_push]; exact Nat.ne_of_lt (Nat.lt_succ_of_lt lS)
        have nf : s.heap.objs.size ∉ [(s.heap.push (E0 w)).objs.size, l] := by
          rw [Heap.size_push]; intro q
          rcases List.mem_cons.mp q with q | q
          · exact absurd q (Nat.ne_of_lt (Nat.lt_succ_self _))
          · exact absurd (List.mem_singleton.mp q) (Nat.ne_of_gt lS)
        have hv : ∀ (i : Nat) (v : Value), items[i]? = some v → ∃ k t, xs[i]? = some k ∧ v = .str k t := fun i v hv => by
          have hi : i < xs.length := by rw [← isz]; exact (Array.getElem?_eq_some_iff.mp hv).1
          obtain ⟨t, e⟩ := SS.strs_at hit i v (by rw [Array.getElem?_toList]; exact hv)
          exact ⟨xs[i], t, List.getElem?_eq_getElem hi, by rw [e, List.getD_eq_getElem?_getD, List.getElem?_eq_getElem hi] <;> rfl⟩
        refine fill ((Walks.list hh3 _ l ne1 items).toS) s.heap.objs.size nf xs isz hb hv (items.size - 0) 0 _ (by omega) (Nat.zero_le _) ⟨⟨_, Heap.get?_push_size _ rfl, rfl, rfl⟩, (hl1.push _)⟩ ?hS0 ?hR
        case hS0 => exact ⟨(#[], 0, .fresh 0 0 (!w.params.followText "set-order")), [], Heap.get?_push_of_some _ hS, Tx.zero, Nat.le_refl 0, fun z => by simp⟩
        case hR =>
          intro s' D ys hm oS F hy hz
          obtain ⟨h', g2, d', tk', os'⟩ := s'
          obtain rfl : g2 = s.gens := hm.gens
          obtain rfl : d' = s.drawn := hm.drawn
          obtain rfl : os' = s.os := hm.os
          show wpAny _ _ _ _ _ _
          refine wpAny_pure ?_; show wpAny _ _ (ret Value.none) _ _ _
          refine wpAny_pure ⟨rfl, h', tk', D, ys, rfl, oS, F, by rw [← isz]; exact hy, hz, fun b o e => ?_⟩
          have b0 : b < s.heap.objs.size := Heap.lt_size e
          exact hm.heap b o (by
            rw [Heap.size_push]; intro q
            rcases List.mem_cons.mp q with q | q
            · exact absurd q (Nat.ne_of_lt b0)
            · exact absurd (List.mem_singleton.mp q) (Nat.ne_of_lt (Nat.lt_succ_of_lt b0))) (Heap.get?_push_of_some _ (Heap.get?_push_of_some _ e))
      · cases r₂ with
        | error e => exact hr₂
        | ok fl₂ =>
          cases fl₂ with
          | ret r =>
            obtain ⟨rfl, h', tk, D, ys, rfl, a1, a2, a3, a4, a5⟩ := hr₂
            repeat (any_goals (first | assumption | wp_step))
            exact h _ _ D ys a1 a2 a3 a4 a5
          | _ => exact hr₂.elim
    | _ => exact hr.elim
theorem perm_ext {α : Type} [DecidableEq α] : ∀ {l ss : List α}, l.Nodup → (∀ x ∈ l, x ∈ ss) → ∃ r, ss.Perm (l ++ r)
  | [], ss, _, _ => ⟨ss, .refl _⟩
  | x :: l, ss, nd, h => by
    obtain ⟨n1, n2⟩ := List.nodup_cons.mp nd
    obtain ⟨r, p⟩ := perm_ext n2 fun y hy => h y (List.mem_cons_of_mem _ hy)
    have hx : x ∈ r := (List.mem_append.mp (p.mem_iff.mp (h x List.mem_cons_self))).resolve_left n1
    exact ⟨r.erase x, p.trans (((List.perm_cons_erase hx).append_left l).trans List.perm_middle)⟩
/-- the signs of a set's table -/
theorem tx_strs {D : SD} {l : List Str} (F : Tx P w D l) : ∃ ss : List Str, StrsAre (D.1.toList.map (·.2)) ss ∧ ss.Perm l := by
  have hk : ∀ e ∈ D.1.toList, ∃ x t, e.2 = Value.str x t := fun e he => by
    obtain ⟨⟨k, q, _⟩, _⟩ := F.ok.el e he
    cases h : e.2 with
    | str x t => exact ⟨x, t, rfl⟩
    | _ => rw [h] at q; cases q
  have key : ∀ es : List (Int × Value), (∀ e ∈ es, ∃ x t, e.2 = Value.str x t) → ∃ ss : List Str, StrsAre (es.map (·.2)) ss ∧ ∀ k, k ∈ ss ↔ ∃ e ∈ es, (strKind P w).is k e.2 = true := by
    intro es
    induction es with
    | nil => exact fun _ => ⟨[], .nil, fun k => by simp⟩
    | cons e r ih =>
      intro h
      obtain ⟨ss, h1, h2⟩ := ih fun x hx => h x (List.mem_cons_of_mem _ hx)
      obtain ⟨x, t, ex⟩ := h e List.mem_cons_self
      refine ⟨x :: ss, by rw [List.map_cons, ex]; exact .cons x t h1, fun k => ?_⟩
      rw [List.mem_cons, h2 k]
      constructor
      · rintro (rfl | ⟨y, hy, q⟩)
        · exact ⟨e, List.mem_cons_self, by rw [ex]; exact is_str _ _⟩
        · exact ⟨y, List.mem_cons_of_mem _ hy, q⟩
      · rintro ⟨y, hy, q⟩
        rcases List.mem_cons.mp hy with rfl | hy
        · rw [ex] at q
          exact .inl ((strKind P w).inj (.str x t) k x q (is_str _ _))
        · exact .inr ⟨y, hy, q⟩
  obtain ⟨ss, h1, h2⟩ := key D.1.toList hk
  refine ⟨ss, h1, ?_⟩
  have hlen : ss.length = l.length := by
    rw [← StrsAre.len_eq h1, List.length_map, Array.length_toList]; exact F.ok.sz
  have sub : ∀ k ∈ l, k ∈ ss := fun k hk => (h2 k).mpr ((F.ok.mem k).mp hk)
  obtain ⟨r, p⟩ := perm_ext F.nd sub
  have := p.length_eq
  rw [List.length_append] at this
  obtain rfl : r = [] := List.length_eq_zero_iff.mp (by omega)
  simpa using p
/-- sorted of such a set -/
theorem sorted_set_strs {a : Addr} {D : SD} {l : List Str} {Q : Value → Shared → Prop} (ho : s.heap.get? a = some (sObj "set" D)) (F : Tx P w D l) (hh : A.handled = none) (h64 : l.length < 64)
    (hQ : ∀ s' p (out : Array Value) (c : Nat) (ss : List Str), (∀ b o, s.heap.get? b = some o → s'.heap.get? b = some o) → s'.gens = s.gens → s'.os = s.os → s.heap.objs.size ≤ p →
      s'.heap.get? p = some (seqObj "list" out c) → StrsAre out.toList ss → ss.Perm l → sortedS ss = true → Q (.ref p) s') :
    wpAny (model P w) A (call (.builtin "sorted") [.ref a]) Q E s := by
  obtain ⟨es, ep, t⟩ := D
  have hsz : es.size = l.length := F.ok.sz
  obtain ⟨ss, hs, pm⟩ := tx_strs F
  refine Calls.call_function_entry kind_sorted plain_sorted entry_sorted (args_sorted1 _) ?_; unfold Builtin.«sorted»
  refine wpAny_bind (m := checkCount "sorted" 1 1 _) (wpAny_pure ?_)
  refine wpAny_bind (collect_set (A := A.in1) hh ⟨_, ho, rfl, rfl⟩ F.ok.fit (by rw [hsz]; unfold scanBound; omega) F.ris F.led fun s1 vs k1 hz g1 o1 pv => ?_)
  have hv : StrsAre vs (vs.map strOf) := strsAre_map vs fun v hv => hs.all v (pv.mem_iff.mp hv)
  have pv2 : (vs.map strOf).Perm l := by
    have q := pv.map strOf
    rw [hs.strs] at q
    exact q.trans pm
  have hvl : vs.length = l.length := by rw [← List.length_map (f := strOf)]; exact pv2.length_eq
  refine wpAny_bind (wpAny_newList ?_ (by rw [hvl, sizeLine_eq]; omega))
  have hoL : (s1.heap.push (seqObj "list" vs.toArray 0)).get? s1.heap.objs.size = some (seqObj "list" vs.toArray 0) := Heap.get?_push_size _ rfl
  refine wpAny_bind (wpAny_holding (wpAny_call_entry slot_list_sort ⟨_, hoL, rfl⟩ entry_list_sort (list_sort_treeK strKind_oneLt hoL hv.keysOf (fun v₁ v₂ rest e => keyKind_strs (by rw [← e]; exact hv)) (by rw [hvl]; exact h64) fun st' hp hs' => ?_) (args_list_sort _)))
  obtain ⟨ss', h1, h2, h3⟩ := sorted_out_str hv hp hs'
  obtain ⟨c, hc⟩ := sortedHeap_at (vs := vs) (out := (arrOf st').map (·.2)) hoL
  refine ⟨_, rfl, wpAny_pure ⟨_, rfl, hQ _ s1.heap.objs.size _ c ss' (fun b u e => ?_) g1 o1 hz hc h1 (h2.trans pv2) h3⟩⟩
  have q := k1 b u e
  have lt := Heap.lt_size q
  show (sortedHeap (s1.heap.push (seqObj "list" vs.toArray 0)) s1.heap.objs.size vs _).get? b = some u
  rw [sortedHeap_old (Nat.ne_of_lt lt) (by rw [size_push']; exact Nat.lt_succ_of_lt lt)]
  exact Heap.get?_push_of_some _ q
end
/-- sorted(set(xs)) -/
def tSortSet (K : PySem.W.Frag) (ta : TE) : TE := fun σ H Q => ta σ H fun x H1 => ∃ (l : Addr) (xs : List Str), x = V.ref l ∧ SqL K H1 l (xs.map V.str) ∧ xs.length < 64 ∧
  ∀ (ys : List Str) (p : Addr), ys.Nodup → (∀ z, z ∈ ys ↔ z ∈ xs) → sortedS ys = true → H1 p = none → Q (.ref p) (upd H1 p (.lst (ys.map V.str)))
theorem pe_sortSet {X : Cx} {a : Expr} {ta : TE} {p p2 q pos : Pos} (hc : X.calm = true) (hg : Gl X "sorted") (hm : X.mg "sorted" = none) (hg2 : Gl X "set") (hm2 : X.mg "set" = none) (ha : PE X a ta)
    (na : starEach [a] X.env = (false, eval a X.env) :: starEach [] X.env := by rfl) : PE X (.Call (.Name "sorted" p) [.Call (.Name "set" p2) [a] [] q] [] pos) (tSortSet X.K ta) := by
  refine ⟨fun pins s σ H Q I h => ?_⟩
  refine Call_ (ld_blt I hg hm boot_sorted ?_); refine PyProof.Rows.callWith_builtin1 (PyProof.Rows.args_cons ?_ rfl) rfl rfl
  refine Call_ (ld_blt I hg2 hm2 boot_set ?_); refine PyProof.Rows.callWith_type1 (PyProof.Rows.args_cons (thn (ha.run pins s σ H _ I h) fun v s1 ⟨x, H1, I1, r1, q1⟩ => PyProof.Rows.args_nil ?_) na) na rfl
  obtain ⟨l, xs, rfl, hq, h1, q1⟩ := q1
  cases r1
  obtain ⟨its, r, pl, hz⟩ := I1.list hq
  refine set_of xs (I1.ok.hd hc) pl.isList (by simpa using strsAre_of r) (by unfold scanBound; omega) fun h' tk D ys o1 F hl hy hk => ?_
  have I2 : Inv X pins σ H1 { s1 with heap := h', toks := tk } := I1.kept hk
  refine PyProof.Rows.args_nil ?_
  refine sorted_set_strs o1 F (I2.ok.hd hc) (by omega) fun s' p out c ss k g o hp hg' hi hs hm' => ?_
  have hlen : (ss.map V.str).length ≤ sizeLine := by rw [List.length_map, hs.length_eq, sizeLine_eq]; omega
  have hn : H1 p = none := I2.hok.fresh hp
  have J : Inv X pins σ (upd H1 p (.lst (ss.map V.str))) { ({ s1 with heap := h', toks := tk } : Shared) with heap := s'.heap, gens := s'.gens, drawn := s'.drawn, toks := s'.toks } :=
    I2.call (ch := []) (Un.laid k hp hn) (I2.hok.laid k hp ⟨hlen, out.toList, c, vals_of_strs hi, hg'⟩) (by rw [g]; exact I2.bare) (fun _ z => nomatch z)
  have e : s' = { s1 with heap := s'.heap, gens := s'.gens, drawn := s'.drawn, toks := s'.toks } := by
    cases s'; cases s1; cases o; rfl
  rw [e]
  exact ⟨.ref p, _, J, rfl, q1 ss p (hs.nodup_iff.mpr F.nd) (fun z => (hs.mem_iff).trans (hy z)) hm' hn⟩
end ZW

/-! Ze: new things of one's own, locked dicts, written dicts read, walks by number, calls that change dicts. -/
namespace Z
open PySem PySem.Spec PyProof.Rows L2
section
variable {K : PySem.W.Frag} {b : Bool} {δ : Sl} {Φ Ψ : D → Prop} {ta tb tc te : TE} {t u : TT} {A : Act} {M M' M2 : AS} {H H' H2 : Hp} {σ : L2.St} {o : OC} {ts tu tw : TS}
/-! ### what an expression makes anew -/
def WN (K : PySem.W.Frag) (te : TE) (δ : Sl) (Θ : AV → Prop) : Prop := ∀ (A : Act) (M : AS) (H : Hp) (σ : L2.St), Sat K A M H σ δ → ∀ Q : VK,
  (∀ p H1 H' u av, Fr A.W H H1 → H1 p = none → Fr A.W H1 H' → H' p = some u → isOwn av = true → (A.G p = none → RepA K A (grow M p) H' (.ref p) av) → Θ av → Q (.ref p) H') → te σ H Q
theorem Sat.setOwnF (S : Sat K A M H σ δ) {p : Addr} {u : HO} {i : Nat} {av : AV} (hp : H p = none) (f : Fr A.W H H') (eD : H' p = some u) (ho : isOwn av = true) (hA : A.G p = none → RepA K A (grow M p) H' (.ref p) av) : Sat K A (grow M p) H' (σ.set i (some (.ref p))) (δ.set i (some av)) := by
  have base : Sat K A (grow M p) H' σ δ := cb_sat (vs := []) S hp f eD
  have gp : A.G p = none := S.fr.back S.welG hp
  refine ⟨fun j bv e => ?_, fun j k bv cv a hne ej ek oj ok sj sk => ?_, by rw [List.length_set, List.length_set, S.len], base.trk, base.m0, base.w0, base.g0, base.wel, base.welG, base.fr⟩
  · by_cases hj : j = i
    · subst hj
      have hl : j < δ.length := by
        have q := (List.getElem?_eq_some_iff.mp e).1
        rw [List.length_set] at q
        exact q
      rw [List.getElem?_set_self hl] at e
      cases e
      exact ⟨_, by rw [List.getElem?_set_self (by rw [S.len]; exact hl)], hA gp⟩
    · rw [List.getElem?_set_ne (Ne.symm hj)] at e ⊢
      exact base.slot j bv e
  · have old : ∀ (n : Nat) (bv : AV), δ[n]? = some (some bv) → isOwn bv = true → σ[n]? = some (some (.ref a)) → a ≠ p := fun n bv en ob sn z => by
      obtain ⟨v, h1, h2⟩ := S.slot n bv en
      rw [sn] at h1
      cases h1
      cases bv with
      | own xs =>
        obtain ⟨a', vs, ea, m, g, q, r⟩ := h2
        cases ea
        rw [z, hp] at q; cases q
      | ownD xs =>
        obtain ⟨a', vs, ea, m, g, q, r⟩ := h2
        cases ea
        rw [z, hp] at q; cases q
      | _ => cases ob
    have at_ : ∀ (n : Nat), n = i → (σ.set i (some (V.ref p)))[n]? = some (some (.ref a)) → a = p := fun n hn h => by
      subst hn
      have hl : n < σ.length := by
        have q := (List.getElem?_eq_some_iff.mp h).1
        rw [List.length_set] at q
        exact q
      rw [List.getElem?_set_self hl] at h
      cases h; rfl
    by_cases hj : j = i
    · by_cases hk : k = i
      · exact hne (hj.trans hk.symm)
      · rw [List.getElem?_set_ne (Ne.symm hk)] at ek sk
        exact old k cv ek ok sk (at_ j hj sj)
    · rw [List.getElem?_set_ne (Ne.symm hj)] at ej sj
      by_cases hk : k = i
      · exact old j bv ej oj sj (at_ k hk sk)
      · rw [List.getElem?_set_ne (Ne.symm hk)] at ek sk
        exact S.dis j k bv cv a hne ej ek oj ok sj sk
theorem new_ext {p : Addr} (S : Sat K A M H σ δ) {H1 : Hp} (f1 : Fr A.W H H1) (hp : H1 p = none) (f2 : Fr A.W H1 H') : Ext M H (grow M p) H' :=
  ⟨fun a oo n e => f2.kp a oo (fun w => n (S.m0 a (S.w0 a w))) (f1.kp a oo (fun w => n (S.m0 a (S.w0 a w))) e), fun a m => m.elim .inl fun e => .inr (by subst e; exact f1.back S.wel hp)⟩
/-- name = a new thing of one's own -/
theorem ws_asgO {i : Nat} (h : WN K te δ fun av => o.nx (δ.set i (some av))) : WS K (tAsg te (gName i)) δ o := fun A M H σ S De n b c r =>
  h A M H σ S _ fun p H1 H' u av f1 hp f2 eD ho hA q => n _ _ _ _ (new_ext S f1 hp f2) ((S.step f1).setOwnF hp f2 eD ho hA) q
/-- {k: v for ..}, new -/
theorem wn_dc {wi : TI} {g : TG} {tt : TT} {tk tv : TE} {vs ws : List Nat} {Θ : AV → Prop} (hg : Wr g ws) (mg : Mono g) (hw : ∀ j ∈ ws, j ∈ vs) (h : WI K true wi δ fun xs => xs.length ≤ 90000 ∧ ∃ J : Nat → List (Key × D) → Prop, J 0 [] ∧
      (∀ i d acc, xs[i]? = some d → J i acc → WG K g d (wipeD δ vs) fun δ2 => WT K tt δ2 fun c => (c = true → WE K true tk δ2 fun x => WE K true tv δ2 fun y => ∃ k : Key, x = kD k ∧ J (i + 1) (putD acc k y)) ∧ (c = false → J (i + 1) acc)) ∧ ∀ acc, J xs.length acc → Θ (.ownD acc)) :
    WN K (tDc wi g tt tk tv vs) δ Θ := fun A M H σ S Q q =>
  h A M H σ S _ fun J H1 xs f1 dw ⟨hx, I, h0, hs, hd⟩ D0 hD => by
    obtain ⟨m, G, Yy, w, em, hG, hY⟩ := dw
    have S1 := S.step f1
    have stY := S1.st0 (b := true)
    have hDW : ¬ A.W D0 := stY.nw hD
    have hDM : ¬ M D0 := stY.nm hD
    refine ⟨fun i mm H' => mm = m - i ∧ ∃ acc vs', Fr A.W H1 H' ∧ H' D0 = some (.dK vs') ∧ RepK K (grow M D0) H' vs' acc ∧ acc.length ≤ i ∧ i ≤ m ∧ I i acc,
      ⟨m, by simp, [], [], Fr.new hD hDW, upd_same, .nil, Nat.le_refl _, Nat.zero_le _, h0⟩, fun i mm H' ⟨emm, acc, vs', f, eD, rl, hl, him, p⟩ => ?_⟩
    have gq := hG M H' (f.mv stY.1)
    by_cases hlt : i < m
    · refine .inr ⟨w.goes i H' hlt gq, fun H' => ∃ acc vs', Fr A.W H1 H' ∧ H' D0 = some (.dK vs') ∧ RepK K (grow M D0) H' vs' acc ∧ acc.length ≤ i + 1 ∧ i + 1 ≤ m ∧ I (i + 1) acc, fun H' z => ⟨m - (i + 1), by omega, rfl, z⟩, fun x H2 y0 => ?_⟩
      have y := w.yields i H' x H2 hlt gq y0
      have SB : Sat K A (grow M D0) H' (L2.wipe σ vs) (wipeD δ vs) := cb_sat S1 hD f eD
      have mvD : Mv M H1 (grow M D0) H' := fun a n hn => ⟨Kp.of fun oo eo => f.kp a oo (fun ww => n (stY.1 a ww)) eo, fun mm => mm.elim n fun e => hn (by rw [e]; exact hD)⟩
      obtain ⟨k, d, ed, rd⟩ := hY i H' x H2 (grow M D0) hlt mvD SB.trk y
      have f2 : Fr A.W H' H2 := ⟨fun a oo _ q => k a oo q, fun a _ q => by
        obtain ⟨x1, y1, z1, q1, q2⟩ := q
        exact ⟨x1, y1, z1, k a _ q1, q2⟩⟩
      have wf : ∀ a, A.W a → grow M D0 a := fun a ww => .inl (S1.m0 a (S1.w0 a ww))
      have main := hs i d acc ed p A (grow M D0) H2 (L2.wipe σ vs) x (SB.step f2) rd
      refine mg _ _ _ _ _ (fun σ3 H3 hq => ?_) (hg _ _ _ _ (main (fun σ3 H3 => ∃ δ3, Ext (grow M D0) H2 (grow M D0) H3 ∧ Sat K A (grow M D0) H3 σ3 δ3 ∧ WT K tt δ3 fun c => (c = true → WE K true tk δ3 fun x => WE K true tv δ3 fun y => ∃ k : Key, x = kD k ∧ I (i + 1) (putD acc k y)) ∧ (c = false → I (i + 1) acc)) fun σ3 H3 δ3 e3 S3 hw3 => ⟨δ3, e3, S3, hw3⟩))
      obtain ⟨⟨δ3, e3, S3, hw3⟩, eh, hl3, off⟩ := hq
      subst eh
      refine ⟨wipe_eq hl3 off hw, ?_⟩
      have g1 : Fr A.W H1 H3 := f.trans f2
      have mvf : ∀ {Ha Hb : Hp}, Fr A.W Ha Hb → Mv (grow M D0) Ha (grow M D0) Hb := fun ff => ff.mv wf
      have rl3 := RepK.mv (mvf f2) rl
      have eD3 : H3 D0 = some (.dK vs') := k _ _ eD
      refine hw3 A _ H3 σ3 S3 _ fun c H4 f4 hc => ?_
      cases c with
      | true =>
        show tk σ3 H4 fun y H5 => tv σ3 H5 fun z H6 => _
        refine hc.1 rfl A _ H4 σ3 (S3.step f4) _ fun yv H5 yd f5 r5 h6 => h6 A _ H5 σ3 ((S3.step f4).step f5) _ fun zv H6 zd f6 r6 ⟨kk, ek, p6⟩ => ?_
        subst ek
        have eD6 : H6 D0 = some (.dK vs') := f6.kp _ _ hDW (f5.kp _ _ hDW (f4.kp _ _ hDW eD3))
        have rl6 := RepK.mv (mvf f6) (RepK.mv (mvf f5) (RepK.mv (mvf f4) rl3))
        have lp : (putD acc kk zd).length ≤ i + 1 := by
          unfold putD
          split
          · rw [List.length_map]; omega
          · simp; omega
        refine ⟨vs', kk, ?_, eD6, by rw [rl.length]; exact sz1000 (by omega), putD acc kk zd, putK vs' kk zv, (((g1.trans f4).trans f5).trans f6).upd hD hDW, upd_same, ?_, lp, by omega, p6⟩
        · cases kk with
          | inl i => cases r5; rfl
          | inr s => cases r5; rfl
        · have mvu : Mv (grow M D0) H6 (grow M D0) (upd H6 D0 (.dK (putK vs' kk zv))) := fun a n hn => ⟨Kp.of fun oo eo => by rw [upd_ne (fun z : a = D0 => n (.inr z))]; exact eo, n⟩
          exact RepK.mv mvu (rl6.put r6)
      | false =>
        show ∃ acc vs', _
        exact ⟨acc, vs', g1.trans f4, f4.kp _ _ hDW eD3, RepK.mv (mvf f4) rl3, by omega, by omega, hc.2 rfl⟩
    · have ei : i = m := by omega
      subst ei
      exact .inl ⟨w.stops H' gq, q D0 H1 H' (.dK vs') (.ownD acc) f1 hD f eD rfl (fun g => ⟨D0, vs', rfl, .inr rfl, g, eD, rl⟩) (hd acc (em ▸ p))⟩
/-- a statement that walks a dict that no one owns -/
theorem ws_lockG {i : Nat} {kvs : List (Key × D)} (e : δ[i]? = some (some (.dat (.dic kvs)))) (h : ∀ (d : Addr) (od : Obj) (vs : List (Key × V)) (A : Act) (M : AS) (H : Hp) (σ : L2.St), Sat K A M H σ δ → σ[i]? = some (some (.ref d)) → H d = some (.frz od (.dK vs)) → ¬ M d → RepK K M H vs kvs →
      ∀ De : Ends, (∀ M' H' σ' δ', Ext M H M' H' → Sat K A M' H' σ' δ' → o.nx δ' → De.nx σ' H') → ts De σ H) : WS K (tForD ts) δ o := fun A M H σ S De n b c r => by
  obtain ⟨v, h1, h2⟩ := S.slot i _ e
  have h2 : Rep K M H v (.dic kvs) := h2
  cases h2 with
  | @dic d vs _ ha hm rk =>
    rcases ha with ha | ⟨od, ha⟩
    · refine .inl ⟨d, _, ha, trivial, fun od => ?_⟩
      have SL : Sat K (lkAct A d od (.dK vs)) M (upd H d (.frz od (.dK vs))) σ δ := S.lock ha hm
      have rk' : RepK K M (upd H d (.frz od (.dK vs))) vs kvs := RepK.mv (fun a n _ => ⟨fun oo e => by
        by_cases z : a = d
        · subst z
          rw [ha] at e
          cases e
          exact .inr ⟨_, od, rfl, upd_same⟩
        · exact .inl (by rw [upd_ne z]; exact e), n⟩) rk
      have hA : A.G d = none ∨ A.G d = some (.dK vs) := by
        cases g : A.G d with
        | none => exact .inl rfl
        | some oo =>
          have q := S.fr.kp d oo (fun w => hm (S.m0 d (S.w0 d w))) g
          rw [ha] at q
          exact .inr q.symm
      refine h d od vs _ M _ σ SL h1 upd_same hm rk' _ fun M' H' σ' δ' ex S' p => ?_
      have e1 : H' d = some (.frz od (.dK vs)) := ex.1 d _ hm upd_same
      have hm' : ¬ M' d := fun m => (ex.2 d m).elim hm fun z => by rw [upd_same] at z; cases z
      refine ⟨e1, n M' _ σ' δ' ⟨fun a oo na ea => ?_, fun a m => ?_⟩ (S'.unlock hA e1 hm') p⟩
      · by_cases z : a = d
        · subst z; rw [upd_same, ← ea, ha]
        · rw [upd_ne z]; exact ex.1 a oo na (by rw [upd_ne z]; exact ea)
      · rcases ex.2 a m with q | q
        · exact .inl q
        · refine .inr ?_
          by_cases z : a = d
          · subst z; rw [upd_same] at q; cases q
          · rwa [upd_ne z] at q
    · exact .inr (h d od vs A M H σ S h1 ha hm rk De n)
def iKeysB (i : Nat) (d : Addr) (od : Obj) (vs : List (Key × V)) : TI := fun σ H R => (H d = some (.frz od (.dK vs)) ∧ σ[i]? = some (some (.ref d))) → R (Itk d od vs) H
theorem wi_keysB {i : Nat} {kvs : List (Key × D)} {d : Addr} {od : Obj} {vs : List (Key × V)} {Θ : List D → Prop} (e : δ[i]? = some (some (.dat (.dic kvs)))) (h : Θ (keysD kvs)) : WI K true (iKeysB i d od vs) δ Θ := fun A M H σ S R q ⟨hf, hs⟩ => by
  obtain ⟨v, h1, h2⟩ := S.slot i _ e
  rw [hs] at h1
  cases h1
  have h2 : Rep K M H (.ref d) (.dic kvs) := h2
  cases h2 with
  | dic ha hm rk =>
    rcases ha with ha | ⟨od', ha⟩
    · rw [hf] at ha; cases ha
    · rw [hf] at ha
      cases ha
      exact q _ H _ Fr.refl (dw_keys hf hm rk) h
/-- name = {k: v for x in d if ..}, d a dict that no one owns -/
theorem ws_dcKeys {i j : Nat} {kvs : List (Key × D)} (e : δ[i]? = some (some (.dat (.dic kvs)))) (hl : kvs.length ≤ 90000) {g : TG} {tt : TT} {tk tv : TE} {vs ws : List Nat} (hg : Wr g ws) (mg : Mono g) (hw : ∀ j ∈ ws, j ∈ vs)
    (h : ∃ J : Nat → List (Key × D) → Prop, J 0 [] ∧ (∀ n k d acc, kvs[n]? = some (k, d) → J n acc → WG K g (kD k) (wipeD δ vs) fun δ2 => WT K tt δ2 fun c => (c = true → WE K true tk δ2 fun x => WE K true tv δ2 fun y => ∃ k : Key, x = kD k ∧ J (n + 1) (putD acc k y)) ∧ (c = false → J (n + 1) acc)) ∧
      ∀ acc, J kvs.length acc → o.nx (δ.set j (some (.ownD acc)))) : WS K (tForD (tAsg (tDc (iKeys (tVar i)) g tt tk tv vs) (gName j))) δ o :=
  ws_lockG e fun d od vv A M H σ S hs hf hm rk De n => by
    obtain ⟨J, h0, hj, hd⟩ := h
    have kl : (keysD kvs).length = kvs.length := by rw [keysD, List.length_map]
    have wn : WN K (tDc (iKeysB i d od vv) g tt tk tv vs) δ fun av => o.nx (δ.set j (some av)) := wn_dc hg mg hw (wi_keysB e ⟨by rw [kl]; exact hl, J, h0, fun n x acc hx hJ => by
      rw [keysD, List.getElem?_map] at hx
      obtain ⟨⟨k, y⟩, h1, h2⟩ := Option.map_eq_some_iff.mp hx
      rw [← h2]
      exact hj n k y acc h1 hJ, by rw [kl]; exact hd⟩)
    have key := wn A M H σ S (fun v H' => De.nx (σ.set j (some v)) H') fun p H1 H' u av f1 hp f2 eD ho hA q => n _ _ _ _ (new_ext S f1 hp f2) ((S.step f1).setOwnF hp f2 eD ho hA) q
    exact ⟨_, hs, d, od, rfl, .inl ⟨vv, hf, key ⟨hf, hs⟩⟩⟩
theorem ws_cut (Δ : Sl) (h1 : WS K ts δ { nx := Up fun δ' => δ' = Δ, rt := fun _ => False }) (h2 : WS K tu Δ o) : WS K (tSeq ts tu) δ o :=
  ws_seq (ws_imp h1 (fun δ' ⟨δ0, e, l⟩ => by subst e; exact ws_weak l h2) (fun _ q => q.elim) (fun _ q => q.elim) (fun _ q => q.elim))
/-- xs[i], xs one's own -/
theorem we_ixO {i : Nat} {xs : List D} (e : δ[i]? = some (some (.own xs))) (h : WE K false tb δ fun y => ∃ (j : Int) (x : D), y = .int j ∧ L2.atI xs j = some x ∧ Φ x) : WE K b (tOp (rIx K) (tVar i) tb) δ Φ := fun A M H σ S Q q => by
  obtain ⟨v, h1, a, vs, rfl, m, g, ha, rl⟩ := S.slot i _ e
  refine ⟨_, h1, h A M H σ S _ fun w H1 d f1 r1 ⟨j, x, e1, e2, p⟩ => ?_⟩
  subst e1
  cases r1
  have S1 := S.step f1
  obtain ⟨v2, h2, a2, vs2, e3, m2, g2, ha2, rl2⟩ := S1.slot i _ e
  rw [h1] at h2
  cases h2
  cases e3
  obtain ⟨v, k1, k2⟩ := rl2.atI e2
  exact .inl ⟨_, _, _, v, rfl, rfl, .inl (.inl ha2), k1, q _ H1 _ f1 (k2.sub S.yt) p⟩
/-- dict(d), d one's own -/
def rDictC : List V → Hp → VK → Prop := fun xs H Q => ∃ (a : Addr) (kvs : List (Key × V)), xs = [.ref a] ∧ Rd H a (.dK kvs) ∧ ∀ p, H p = none → Q (.ref p) (upd H p (.dK kvs))
theorem we_dictO {i : Nat} {kvs : List (Key × D)} (e : δ[i]? = some (some (.ownD kvs))) (h : Φ (.dic kvs)) : WE K b (tCB rDictC (tCons (tVar i) tNil)) δ Φ := fun A M H σ S Q q => by
  obtain ⟨v, h1, a, vs, rfl, m, g, ha, rk⟩ := S.slot i _ e
  refine ⟨_, h1, a, vs, rfl, .inl ha, fun p hp => ?_⟩
  have st := S.st0 (b := b)
  have f := mk_fr (o := .dK vs) st hp
  refine q _ _ _ f (.dic (.inl upd_same) (st.nm hp) ?_) h
  exact RepK.mv (f.mv st.1) (rk.sub S.yt)
/-! ### is, of flat things -/
def rIsTF : R2 := fun x y H Q => ∃ c : Bool, y = .bl c ∧ ((∃ b, x = .bl b) ∨ (∃ i, x = .int i) ∨ (∃ z, x = .str z) ∨ x = .non) ∧ Q (.bl (decide (x = .bl c))) H
theorem op_isTF {X : Cx} : OpR X (compareOp .Is) rIsTF := by
  intro pins s σ H x y v u Q I rx ry h
  obtain ⟨c, rfl, hx, q⟩ := h
  cases (show u = Value.bool c from ry)
  rcases hx with ⟨b, rfl⟩ | ⟨i, rfl⟩ | ⟨z, rfl⟩ | rfl
  · cases (show v = Value.bool b from rx)
    by_cases e : b = c
    · subst e
      exact wpAny_is_self rfl ⟨.bl true, H, I, rfl, by simpa using q⟩
    · exact wpAny_is_other rfl (fun z => e (Value.bool.inj z)) ⟨.bl false, H, I, rfl, by simpa [e] using q⟩
  · obtain ⟨t, rfl⟩ := rx
    exact wpAny_is_other rfl (fun z => by cases z) ⟨.bl false, H, I, rfl, by simpa using q⟩
  · obtain ⟨t, rfl⟩ := rx
    exact wpAny_is_other rfl (fun z => by cases z) ⟨.bl false, H, I, rfl, by simpa using q⟩
  · cases rx
    exact wpAny_is_other rfl (fun z => by cases z) ⟨.bl false, H, I, rfl, by simpa using q⟩
def isBD : D → Bool → Bool
  | .bl b, c => decide (b = c)
  | _, _ => false
theorem os_isTF {x : D} {c : Bool} (f : Flat x) (h : Φ (.bl (isBD x c))) : OpS K rIsTF x (.bl c) Φ := fun M W H vx vy st rx ry Q q => by
  cases ry
  cases rx with
  | non => exact ⟨c, rfl, .inr (.inr (.inr rfl)), q _ H _ Fr.refl (.bl _) (by simpa [isBD] using h)⟩
  | bl b => exact ⟨c, rfl, .inl ⟨b, rfl⟩, q _ H _ Fr.refl (.bl _) (by simpa [isBD] using h)⟩
  | int i => exact ⟨c, rfl, .inr (.inl ⟨i, rfl⟩), q _ H _ Fr.refl (.bl _) (by simpa [isBD] using h)⟩
  | str s => exact ⟨c, rfl, .inr (.inr (.inl ⟨s, rfl⟩)), q _ H _ Fr.refl (.bl _) (by simpa [isBD] using h)⟩
  | tup => cases f
  | lst => cases f
  | fl => cases f
  | dic => cases f
  | ins => cases f
  | clv => cases f
theorem os_in_tupI {s : Int} {ns : List Int} (h : Φ (.bl (decide (s ∈ ns)))) : OpS K (rInU K) (.int s) (.tup (ns.map D.int)) Φ := fun M W H vx vy st rx ry Q q => by
  cases rx
  cases ry with
  | tup ha n r =>
    have e1 := r.ints
    subst e1
    refine .inl ⟨_, _, rfl, .inr (.inl (.inl ha)), rfl, flat_ints ns, ?_⟩
    show Q (.bl (inV (.int s) (ns.map V.int))) H
    rw [inV_ints]
    exact q _ H _ Fr.refl (.bl _) h
theorem os_eq_nilT {α : Type} {xs : List α} (f : α → D) (g : α → PyData) (hf : ∀ x ∈ xs, toP (f x) = some (g x)) (hc : ∀ x ∈ xs, (g x).canLay0 = true ∧ (g x).depth ≤ 1) (h : Φ (.bl (decide (xs = [])))) : OpS K (rEqU K) (.tup (xs.map f)) (.tup []) Φ := by
  obtain ⟨h1, h2⟩ := canAll_map g hc
  refine os_eq_data (p := .tuple (xs.map g)) (q := .tuple []) (by simp only [toP, toPs_map f g hf]; rfl) (by simp only [toP, toPs]; rfl) (shaped_lst h1 (by omega)).2 (shaped_lst rfl (by simp [PyData.depthAll])).2 ?_
  rw [PyData.eqv, eqv_nil]
  simpa using h
/-! ### written dicts -/
theorem os_in_kd {W : Addr} {ws : List Str} {z : Str} (hw : WordsK K W ws) (h : Φ (.bl (decide (z ∈ ws)))) : OpS K (fun x y H Q => ∃ (z : Str) (r : Option Value), x = .str z ∧ y = .ref W ∧ PySem.W.nsIn K W z = some r ∧ Q (V.bl r.isSome) H) (.str z) (.clv (.ref W)) Φ := fun M Wl H vx vy st rx ry Q q => by
  cases rx
  cases ry
  obtain ⟨r, hr, e⟩ := hw z
  exact ⟨z, r, rfl, rfl, hr, q _ H _ Fr.refl (.bl _) (by rw [e]; exact h)⟩
theorem os_ix_kd {w : World} {W : Addr} {z : Str} {i : Int} (hk : KDct K w W z (.int i)) (h : Φ (.int i)) : OpS K (rIxD K w) (.clv (.ref W)) (.str z) Φ := fun M Wl H vx vy st rx ry Q q => by
  cases rx
  cases ry
  exact ⟨W, z, _, rfl, rfl, hk, q _ H _ Fr.refl (.int _) h⟩
theorem cs_any {bs : List Bool} (h : Φ (.bl (bs.any id))) : CbS K (rAny K) [.dat (.lst (bs.map D.bl))] Φ := fun M W H vs st r Q q => by
  have rl := datas_rep r rfl
  cases rl with
  | cons r1 rl =>
    cases rl
    cases r1 with
    | lst ha hm rr => exact ⟨_, bs, rfl, .inl (.inl (rr.bools ▸ ha)), q _ H _ Fr.refl (.bl _) h⟩
theorem we_sortSet (h : WE K b ta δ fun x => ∃ ns : List Str, x = .lst (ns.map D.str) ∧ ns.length < 64 ∧ ∀ ys : List Str, ys.Nodup → (∀ z, z ∈ ys ↔ z ∈ ns) → sortedS ys = true → Φ (.lst (ys.map D.str))) : WE K b (ZW.tSortSet K ta) δ Φ := fun A M H σ S Q q =>
  h A M H σ S _ fun v H1 x f1 r1 ⟨ns, e, hl, hp⟩ => by
    subst e
    have st := (S.step f1).st0 (b := b)
    cases r1 with
    | lst ha hm rr =>
      exact ⟨_, ns, rfl, .inl (.inl (rr.strs ▸ ha)), hl, fun ys p nd hm' hs hp' => q _ _ _ (f1.trans (mk_fr st hp')) (.lst upd_same (st.nm hp') (RepL.ofStrs ys)) (hp ys nd hm' hs)⟩
theorem wi_enumL {tr : TA} {Θ : List D → Prop} (h : WA K b tr δ fun as => ∃ xs, as = [.dat (.lst xs)] ∧ Θ (enumD xs)) : WI K b (iEnum K tr) δ Θ := fun A M H σ S R q =>
  h A M H σ S _ fun vs H1 as f1 ra ⟨xs, e, p⟩ => by
    subst e
    cases ra with
    | dat r2 r3 =>
      cases r3
      cases r2 with
      | lst ha n rl =>
        refine ⟨_, _, rfl, .inl (.inl ha), q _ H1 _ f1 ⟨_, _, _, walk_enum, by rw [enumD_len]; exact rl.length, fun M2 H2 mv => ?_, fun i H2 v H3 M2 hi mv ht y => ?_⟩ p⟩
        · rcases (mv _ n (some_ne ha)).1 _ ha with q | ⟨_, _, e, _⟩
          · exact .inl (.inl q)
          · cases e
        · obtain ⟨T, x, y', rfl, hT, rfl, e1, e2⟩ := y
          obtain rfl : V.int (i : Int) = x := Option.some.inj e1
          obtain ⟨d, e3, e4⟩ := rl.getV e2
          have hnT : ¬ M2 T := fun m => ht T m hT
          refine ⟨fun a o z => by rw [upd_ne (ne_of_none z hT)]; exact z, _, enumD_get e3, .tup upd_same hnT (.cons (.int _) (.cons ?_ .nil))⟩
          exact Rep.mv (fun a n2 h2 => ⟨Kp.of fun o z => by rw [upd_ne (ne_of_none z hT)]; exact z, n2⟩) (Rep.mv mv e4)
/-- a call by names in any order -/
theorem we_callP {S0 : List AV → (D → Prop) → Prop} {E : XK} {tk : TA} {gV : List V → List V → List V} (gA : List AV → List AV) (hg : ∀ (M W : AS) (H : Hp) vs as, RepAs K M W H vs as → RepAs K M W H (gV [] vs) (gA as)) (h : WA K b tk δ fun as => S0 (gA as) Φ) :
    WE K b (tCallK (spA K S0) gV E tNil tk) δ Φ := fun A M H σ S Q q =>
  h A M H σ S _ fun vs H1 as f1 r1 h3 => ⟨gA as, Y A M b, A.W, Φ, (S.step f1).st0, hg _ _ _ _ _ r1, h3, fun v H' d f r p => q v H' d (f1.trans f) r p⟩
/-! ### names = (new things) -/
def gl : List Nat → TGs
  | [] => gNil
  | i :: r => gCons (gName i) (gl r)
def setAll {α : Type} : List (Option α) → List Nat → List α → List (Option α)
  | δ, i :: is, a :: as => setAll (δ.set i (some a)) is as
  | δ, _, _ => δ
theorem Sat.moveAll : ∀ (is : List Nat) (vs : List V) (as : List AV) {σ : L2.St} {δ : Sl}, σ.length = δ.length → vs.length = is.length → as.length = is.length → Sat K A M H (σ ++ vs.map some) (δ ++ as.map some) → Sat K A M H (setAll σ is vs) (setAll δ is as)
  | [], [], [], σ, δ, _, _, _, S => by simpa [setAll] using S
  | i :: is, v :: vs, a :: as, σ, δ, hl, h1, h2, S => by
    have S2 := Sat.move hl i (τ := vs.map some) (ε := as.map some) (by simpa using S)
    exact Sat.moveAll is vs as (by simp [hl]) (by simpa using h1) (by simpa using h2) S2
theorem gl_at {Q : L2.St → Hp → Prop} {H : Hp} : ∀ (is : List Nat) (vs : List V) (σ : L2.St), vs.length = is.length → Q (setAll σ is vs) H → gl is vs σ H Q
  | [], [], σ, _, q => ⟨rfl, q⟩
  | i :: is, v :: vs, σ, h, q => ⟨v, vs, rfl, gl_at is vs _ (by simpa using h) q⟩
theorem ws_tupW {n : Nat} {tr : TA} (is : List Nat) (hn : n = is.length) (h : WP K tr δ fun as => as.length = is.length ∧ is.length ≤ 100 ∧ o.nx (setAll δ is as)) : WS K (tAsg (tTup tr) (gTup K n (gl is))) δ o := fun A M H σ S De nn b c r =>
  h A M H σ [] [] S.len (by simpa using S) _ fun vs M' H' as e S2 ⟨h1, h2, p⟩ => by
    have lv : vs.length = is.length := by
      have := S2.len
      simp [S.len] at this
      omega
    refine ⟨by rw [lv]; exact Nat.le_trans h2 (by decide), fun q hq => ?_⟩
    have nW : ¬ A.W q := fun w => by
      obtain ⟨x, y, z, e, _⟩ := S2.wel q w
      rw [hq] at e; cases e
    have nM : ¬ M' q := fun m => S2.trk q m hq
    have f := Fr.new (W := A.W) (o := .tup vs) hq nW
    have S3 := S2.step f
    have S4 := Sat.moveAll is vs as S.len lv h1 (by simpa using S3)
    refine ⟨q, vs, rfl, .inl (.inl upd_same), by rw [lv, hn], gl_at is vs σ lv ?_⟩
    exact nn M' _ _ _ (e.trans (S2.ext f)) S4 p
/-! ### defs that change dicts which are handed to them -/
theorem RepL.flat {v : List V} {x : List D} (h : RepL K M H v x) : (∀ y ∈ x, Flat y) → RepL K M' H' v x := by
  intro f
  induction x generalizing v with
  | nil => cases h; exact .nil
  | cons a r ih =>
    cases h with
    | cons h1 h2 => exact .cons (h1.flat (f a List.mem_cons_self)) (ih h2 fun y hy => f y (List.mem_cons_of_mem _ hy))
/-- a tuple of flat things stands where no tuple is not -/
theorem Rep.tupF {v : V} {x : List D} (h : Rep K M H v (.tup x)) (f : ∀ y ∈ x, Flat y) (hM : ∀ a, M' a → M a ∨ ∀ xs, H a ≠ some (.tup xs)) : Rep K M' H v (.tup x) := by
  cases h with
  | tup h n r => exact .tup h (fun m => (hM _ m).elim n fun q => q _ h) (r.flat f)
theorem Rep.tupF2 {v : V} {x : List D} {y : D} (h : Rep K M H v (.tup [.tup x, y])) (f : ∀ y ∈ x, Flat y) (fy : Flat y) (hM : ∀ a, M' a → M a ∨ ∀ xs, H a ≠ some (.tup xs)) : Rep K M' H v (.tup [.tup x, y]) := by
  cases h with
  | tup h n r =>
    refine .tup h (fun m => (hM _ m).elim n fun q => q _ h) ?_
    cases r with
    | cons r1 r => cases r with
      | cons r2 r =>
        cases r
        exact .cons (r1.tupF f hM) (.cons (r2.flat fy) .nil)
theorem RepL.tupF2 {α : Type} {f : α → List D} {g : α → D} (hf : ∀ a, ∀ y ∈ f a, Flat y) (hg : ∀ a, Flat (g a)) (hM : ∀ a, M' a → M a ∨ ∀ xs, H a ≠ some (.tup xs)) : ∀ {v : List V} {x : List α}, RepL K M H v (x.map fun a => D.tup [.tup (f a), g a]) → RepL K M' H v (x.map fun a => D.tup [.tup (f a), g a])
  | _, [], .nil => .nil
  | _, _ :: _, .cons h r => .cons (h.tupF2 (hf _) (hg _) hM) (RepL.tupF2 hf hg hM r)
/-- a statement during which some slots keep what they hold -/
def WS2 (K : PySem.W.Frag) (pn : List Nat) (ts : TS) (δ : Sl) (nx : Sl → Prop) (rt : Sl → D → Prop) : Prop := ∀ (A : Act) (M : AS) (H : Hp) (σ : L2.St), Sat K A M H σ δ → ∀ De : Ends,
  (∀ M' H' σ' δ', Ext M H M' H' → Sat K A M' H' σ' δ' → (∀ j ∈ pn, σ'[j]? = σ[j]?) → nx δ' → De.nx σ' H') → (∀ M' H' σ' δ' v d, Ext M H M' H' → Sat K A M' H' σ' δ' → (∀ j ∈ pn, σ'[j]? = σ[j]?) → Rep K A.M0 H' v d → rt δ' d → De.rt v H') → ts De σ H
variable {pn : List Nat} {nx : Sl → Prop} {rt : Sl → D → Prop}
theorem ws2_seq (h : WS2 K pn ts δ (fun δ' => WS2 K pn tu δ' nx rt) rt) : WS2 K pn (tSeq ts tu) δ nx rt := fun A M H σ S De n r =>
  h A M H σ S _ (fun M1 H1 σ1 δ1 e1 S1 k1 p => p A M1 H1 σ1 S1 De (fun M2 H2 σ2 δ2 e2 S2 k2 q => n M2 H2 σ2 δ2 (e1.trans e2) S2 (fun j hj => (k2 j hj).trans (k1 j hj)) q) fun M2 H2 σ2 δ2 v d e2 S2 k2 rd q => r M2 H2 σ2 δ2 v d (e1.trans e2) S2 (fun j hj => (k2 j hj).trans (k1 j hj)) rd q) fun M1 H1 σ1 δ1 v d e1 S1 k1 rd p => r M1 H1 σ1 δ1 v d e1 S1 k1 rd p
theorem ws2_next (h : nx δ) : WS2 K pn tNext δ nx rt := fun A M H σ S De n r => n M H σ δ Ext.refl S (fun _ _ => rfl) h
theorem ws2_if (h : WT K t δ fun c => (c = true → WS2 K pn ts δ nx rt) ∧ (c = false → WS2 K pn tu δ nx rt)) : WS2 K pn (tIfS t ts tu) δ nx rt := fun A M H σ S De n r =>
  h A M H σ S _ fun c H1 f1 hc => by
    have S1 := S.step f1
    have e1 := S.ext f1
    cases c with
    | true => exact hc.1 rfl A M H1 σ S1 De (fun M2 H2 σ2 δ2 e2 S2 k2 q => n M2 H2 σ2 δ2 (e1.trans e2) S2 k2 q) fun M2 H2 σ2 δ2 v d e2 S2 k2 rd q => r M2 H2 σ2 δ2 v d (e1.trans e2) S2 k2 rd q
    | false => exact hc.2 rfl A M H1 σ S1 De (fun M2 H2 σ2 δ2 e2 S2 k2 q => n M2 H2 σ2 δ2 (e1.trans e2) S2 k2 q) fun M2 H2 σ2 δ2 v d e2 S2 k2 rd q => r M2 H2 σ2 δ2 v d (e1.trans e2) S2 k2 rd q
theorem ws2_ifN (h : WT K t δ fun c => c = true → WS2 K pn ts δ nx rt) (hn : nx δ) : WS2 K pn (tIfS t ts tNext) δ nx rt := fun A M H σ S De n r =>
  h A M H σ S _ fun c H1 f1 hc => by
    have S1 := S.step f1
    have e1 := S.ext f1
    cases c with
    | true => exact hc rfl A M H1 σ S1 De (fun M2 H2 σ2 δ2 e2 S2 k2 q => n M2 H2 σ2 δ2 (e1.trans e2) S2 k2 q) fun M2 H2 σ2 δ2 v d e2 S2 k2 rd q => r M2 H2 σ2 δ2 v d (e1.trans e2) S2 k2 rd q
    | false => exact n M H1 σ δ e1 S1 (fun _ _ => rfl) hn
theorem ws2_ret (h : WE K false te δ (rt δ)) : WS2 K pn (tRet te) δ nx rt := fun A M H σ S De n r =>
  h A M H σ S _ fun v H1 d f1 r1 p => r M H1 σ δ v d (S.ext f1) (S.step f1) (fun _ _ => rfl) r1 p
theorem ws2_asg {g : TG} {ws : List Nat} (hg : Wr g ws) (mg : Mono g) (hw : ∀ j ∈ pn, j ∉ ws) (h : WE K true te δ fun d => WG K g d δ nx) : WS2 K pn (tAsg te g) δ nx rt := fun A M H σ S De n r =>
  h A M H σ S _ fun v H1 d f1 r1 p => by
    have S1 := S.step f1
    refine mg _ _ _ _ _ (fun σ' H' hq => ?_) (hg _ _ _ _ (p A M H1 σ v S1 r1 (fun σ' H' => ∃ δ', Ext M H1 M H' ∧ Sat K A M H' σ' δ' ∧ nx δ') fun σ' H' δ' e' S' q => ⟨δ', e', S', q⟩))
    obtain ⟨⟨δ', e', S', q⟩, _, _, k⟩ := hq
    exact n M H' σ' δ' ((S.ext f1).trans e') S' (fun j hj => k j (hw j hj)) q
theorem ws2_par {i j : Nat} {tr : TA} (hi : i ∉ pn) (hj : j ∉ pn) (h : WP K tr δ fun as => ∃ a c, as = [a, c] ∧ nx ((δ.set i (some a)).set j (some c))) : WS2 K pn (tPar i j tr) δ nx rt := fun A M H σ S De n r =>
  h A M H σ [] [] S.len (by simpa using S) _ fun vs M' H' as e S2 ⟨a, c2, ea, p⟩ => by
    subst ea
    have lv : vs.length = 2 := by
      have := S2.len
      simp [S.len] at this
      exact this
    match vs, lv with
    | [v, w], _ =>
      have S3 := Sat.move S.len i (by simpa using S2)
      have S4 := Sat.move (σ := σ.set i (some v)) (δ := δ.set i (some a)) (by simp [S.len]) j (τ := []) (ε := []) (by simpa using S3)
      exact ⟨v, w, rfl, n M' H' _ _ e (by simpa using S4) (fun l hl => by rw [List.getElem?_set_ne (fun (z : j = l) => hj (by rw [z]; exact hl)), List.getElem?_set_ne (fun (z : i = l) => hi (by rw [z]; exact hl))]) p⟩
/-- d1[k1], d2[k2] = e -/
theorem ws2_put2 {i j k1 k2 : Nat} (h : WE K true te δ fun d => ∃ (x y : D) (T1 T2 : List (Key × D)) (s1 s2 : Str), d = .tup [x, y] ∧ Flat x ∧ Flat y ∧ i ≠ j ∧ δ[i]? = some (some (.ownD T1)) ∧ δ[j]? = some (some (.ownD T2)) ∧ T1.length < 100000 ∧ T2.length < 100000 ∧
      δ[k1]? = some (some (.dat (.str s1))) ∧ δ[k2]? = some (some (.dat (.str s2))) ∧ nx ((δ.set i (some (.ownD (putD T1 (Sum.inr s1) x)))).set j (some (.ownD (putD T2 (Sum.inr s2) y))))) :
    WS2 K pn (tAsg te (gTup K 2 (gCons (gSub (tVar i) (tVar k1) rSetD) (gCons (gSub (tVar j) (tVar k2) rSetD) gNil)))) δ nx rt := fun A M H σ S De n r =>
  h A M H σ S _ fun v H1 d f1 r1 ⟨x, y, T1, T2, s1, s2, e, fx, fy, hij, e1, e2, z1, z2, ek1, ek2, q⟩ => by
    subst e
    have S1 := S.step f1
    cases r1 with
    | tup h1 n1 rl =>
      cases rl with
      | @cons wx _ _ _ ra rl => cases rl with
      | @cons wy _ _ _ rb rl =>
        cases rl
        obtain ⟨v1, hv1, a1, vs1, rfl, m1, g1, ha1, rk1⟩ := S1.slot i _ e1
        obtain ⟨v2, hv2, a2, vs2, rfl, m2, g2, ha2, rk2⟩ := S1.slot j _ e2
        obtain ⟨u1, hu1, ru1⟩ := S1.slot k1 _ ek1
        obtain ⟨u2, hu2, ru2⟩ := S1.slot k2 _ ek2
        cases ru1
        cases ru2
        have ne : a1 ≠ a2 := fun z => S1.dis i j _ _ a1 hij e1 e2 rfl rfl hv1 (by rw [z]; exact hv2)
        have fl1 : ∀ {H' : Hp}, RepK K M H1 vs1 T1 → (Mv M H1 M H') → RepK K M H' vs1 T1 := fun r mv => RepK.mv mv r
        have mvA : Mv M H1 M (upd H1 a1 (.dK (putK vs1 (Sum.inr s1) wx))) := fun b nb hb => ⟨Kp.of fun oo eo => by rw [upd_ne (fun z : b = a1 => nb (by rw [z]; exact m1))]; exact eo, nb⟩
        obtain ⟨S2, x2⟩ := S1.own_upd (av' := .ownD (putD T1 (Sum.inr s1) x)) (u := .dK (putK vs1 (Sum.inr s1) wx)) e1 rfl rfl hv1 m1 g1 ⟨a1, _, rfl, m1, g1, upd_same, RepK.mv mvA (rk1.put ra)⟩
        have e2' : (δ.set i (some (.ownD (putD T1 (Sum.inr s1) x))))[j]? = some (some (.ownD T2)) := by rw [List.getElem?_set_ne hij]; exact e2
        have ha2' : (upd H1 a1 (.dK (putK vs1 (Sum.inr s1) wx))) a2 = some (.dK vs2) := by rw [upd_ne (Ne.symm ne)]; exact ha2
        have mvB : Mv M (upd H1 a1 (.dK (putK vs1 (Sum.inr s1) wx))) M (upd (upd H1 a1 (.dK (putK vs1 (Sum.inr s1) wx))) a2 (.dK (putK vs2 (Sum.inr s2) wy))) := fun b nb hb => ⟨Kp.of fun oo eo => by rw [upd_ne (fun z : b = a2 => nb (by rw [z]; exact m2))]; exact eo, nb⟩
        obtain ⟨S3, x3⟩ := S2.own_upd (av' := .ownD (putD T2 (Sum.inr s2) y)) (u := .dK (putK vs2 (Sum.inr s2) wy)) e2' rfl rfl hv2 m2 g2 ⟨a2, _, rfl, m2, g2, upd_same, RepK.mv mvB ((RepK.mv mvA rk2).put (rb.flat fy))⟩
        refine ⟨_, [wx, wy], rfl, .inl (.inl h1), rfl, ?_⟩
        refine ⟨_, _, rfl, ⟨_, hv1, _, hu1, a1, _, rfl, .inl ⟨vs1, Sum.inr s1, ha1, rfl, by rw [rk1.length]; exact sz1000 z1, rfl⟩, ?_⟩⟩
        refine ⟨_, _, rfl, ⟨_, hv2, _, hu2, a2, _, rfl, .inl ⟨vs2, Sum.inr s2, ha2', rfl, by rw [rk2.length]; exact sz1000 z2, rfl⟩, rfl, ?_⟩⟩
        exact n M _ σ _ (((S.ext f1).trans x2).trans x3) S3 (fun _ _ => rfl) q
end
/-! ### name = {k: v for ..}, the name a local -/
section
variable {X : Cx}
theorem sw_dc {kx vx : Expr} {gs : List Comprehension} {scope : Scope} {pos py : Pos} {y : Str} {l : Nat} {env : Env} (hk : env.scope.kind = .function) (hy : env.scope.names.lookup y = some .local) (hl : (py.line == pos.line) = true)
    (ha : (scope.names.any fun (n, k) => n == y && (k == .local || k == .cell)) = false) : swapsWith (.DictComp kx vx gs scope pos) (some (.Name y py)) l env = pure true := by
  have h1 : env.kindOf y = some .local := hy
  have h2 : env.blockKind = .function := by unfold Env.blockKind; rw [hk]; rfl
  unfold swapsWith; simp only [h2, h1, ha, Expr.pos, hl]; rfl
theorem ps_setDc {i : Nat} {y : Str} {py : Pos} {kx vx tg iter : Expr} {ifs : List Expr} {scope : Scope} {own : List (Str × Nat)} {pos spos : Pos} {wi : TI} {g : TG} {tt : TT} {tk tv : TE} (hc : X.calm = true) (hN : X.N.Nodup) (hy : X.N[i]? = some y) (hyl : X.env.scope.names.lookup y = some .local)
    (hsw : swapsWith (.DictComp kx vx [⟨tg, iter, ifs, 0⟩] scope pos) (some (.Name y py)) spos.line X.env = pure true) (hi : PI X tg iter wi) (ok : BlkOk X.N X.env.scope scope own)
    (hg : ∀ (s : Shared) (H : Hp) (C : Addr) (cl : List (Str × Addr)) (fp : List Addr), PG (X.blk s H scope (compEnvC scope cl C X.env) fp) tg g)
    (ht : ∀ (s : Shared) (H : Hp) (C : Addr) (cl : List (Str × Addr)) (fp : List Addr), PTs (X.blk s H scope (compEnvC scope cl C X.env) fp) ifs tt)
    (hkx : ∀ (s : Shared) (H : Hp) (C : Addr) (cl : List (Str × Addr)) (fp : List Addr), PE (X.blk s H scope (compEnvC scope cl C X.env) fp) kx tk)
    (hvx : ∀ (s : Shared) (H : Hp) (C : Addr) (cl : List (Str × Addr)) (fp : List Addr), PE (X.blk s H scope (compEnvC scope cl C X.env) fp) vx tv) (hs : ∀ x, foldedSetIterable iter X.env x = pure x := by intro _; rfl) :
    PS X (.Assign [.Name y py] (.DictComp kx vx [⟨tg, iter, ifs, 0⟩] scope pos) spos) (tAsg (tDc wi g tt tk tv (own.map (·.2))) (gName i)) := by
  refine ⟨fun pins s σ H De I h => ?_⟩; rw [exec_Assign_Name_used _ _ _ _ hsw]; refine wpAny_bind (wpAny_standAt (wpAny_bind ?_))
  show wpAny _ X.A (do let _ ← comprehension (.DictComp kx vx [⟨tg, iter, ifs, 0⟩] scope pos) scope X.env (firstIterPos [⟨tg, iter, ifs, 0⟩] pos) newDict false (eval iter X.env) (some (assign (.Name y py) X.env))) _ _ s
  have h : tDc wi g tt tk tv (own.map (·.2)) σ H (fun x H1 => gName i x σ H1 De.nx) := h
  refine wpAny_bind (thn (dc_core (Qf := fun _ s' => SP X pins De .next s') hc hN I hi ok hg ht hkx hvx hs h fun L C s' m H' I' q hn f => ?_) fun _ s' hq => wpAny_pure (wpAny_pure hq))
  show wpAny _ _ (assign (.Name y py) X.env (.ref L)) _ _ _; refine wpAny_assign_Name (store_ok2 (v := V.ref L) I' hN hy (.inl hyl) rfl (fun s2 I2 ⟨a, sb, ha⟩ => ?_) (.inr hyl))
  obtain ⟨f0, f1, f2, f3, f4, f5⟩ := f; have ne : C ≠ a := ha.elim (fun z => by rw [z]; exact f1) fun z e => f4 y a z e.symm
  exact ⟨m, hn.sameBut sb ne, fun h3 sb3 => ⟨_, H', I2.turned (t' := s2.toks) (fun b o hb e => (sb3.2 b hb).trans e) f0 f1 f3 f4 f5, q⟩⟩
end
end Z

namespace T25
open PySem PySem.Spec PyProof.Rows L2 Z
def li_SIZES : List (Str × Int) := [("pour", 6), ("move", 5), ("away", 4), ("sample", 6), ("look", 5), ("doubt", 5)]
def li_TAKEN : List (Str × Int) := [("move", 4), ("away", 3), ("sample", 3)]
def permW {α : Type} : List α → List α → List α
  | [], [a, b, c, d] => [c, d, a, b]
  | _, _ => []
def top (i : Nat) : Stmt := PySem.Challenge.pw_recallhouse_k25_ways_followed_event_by_e.main.body.getD i (.Pass ⟨0, 0, 0, 0⟩)
abbrev s_is_whole : Stmt := top 9
abbrev s_is_number : Stmt := top 10
abbrev s_are_bounds : Stmt := top 11
abbrev s_need_number : Stmt := top 12
abbrev s_is_place : Stmt := top 18
abbrev s_is_form : Stmt := top 19
abbrev s_is_doubt : Stmt := top 20
abbrev s_is_move : Stmt := top 21
abbrev s_is_event : Stmt := top 22
abbrev s_held_behind : Stmt := top 23
abbrev s_are_letters : Stmt := top 29
abbrev s_is_name : Stmt := top 30
abbrev s_is_pair : Stmt := top 34
abbrev s_check_places : Stmt := top 35
abbrev s_held_rows : Stmt := top 36
abbrev s_need_hall : Stmt := top 38
abbrev s_need_event : Stmt := top 39
abbrev s_need_place : Stmt := top 40
abbrev s_need_pour : Stmt := top 41
abbrev s_is_left : Stmt := top 44
abbrev s_ways_from : Stmt := top 45
abbrev s_need_link : Stmt := top 46
abbrev s_is_linked : Stmt := top 47
abbrev s_way : Stmt := top 48
abbrev s_law_well : Stmt := top 50
abbrev s_law_take : Stmt := top 51
abbrev s_law_pick : Stmt := top 52
abbrev s_law_letters : Stmt := top 53
abbrev s_law_same : Stmt := top 54
abbrev s_law_name : Stmt := top 55
abbrev s_law_places : Stmt := top 56
abbrev s_law_bounds : Stmt := top 57
abbrev s_law_taken : Stmt := top 58
abbrev s_law_one_event : Stmt := top 59
abbrev s_law_drawn : Stmt := top 60
abbrev s_law_totals : Stmt := top 61
abbrev s_law_follow : Stmt := top 62
abbrev s_law_is_way : Stmt := top 63
abbrev s_law_pours : Stmt := top 64
abbrev s_law_asked : Stmt := top 65
abbrev s_law_chain : Stmt := top 66
abbrev s_law_emptied : Stmt := top 67
abbrev s_law_round : Stmt := top 68
abbrev s_law : Stmt := top 69
abbrev s_Hall_init : Stmt := inClass (top 37) 0
theorem sc_is_whole : FnScope ["value"] ["value"] (defScope s_is_whole) := ⟨rfl, rfl, rfl, by decide +kernel, rfl, by decide +kernel, by decide +kernel⟩
theorem sc_is_number : FnScope ["value", "low", "high"] ["value", "low", "high"] (defScope s_is_number) := ⟨rfl, rfl, rfl, by decide +kernel, rfl, by decide +kernel, by decide +kernel⟩
theorem sc_are_bounds : FnScope ["least", "most", "top"] ["least", "most", "top"] (defScope s_are_bounds) := ⟨rfl, rfl, rfl, by decide +kernel, rfl, by decide +kernel, by decide +kernel⟩
theorem sc_need_number : FnScope ["value", "low", "high"] ["value", "low", "high"] (defScope s_need_number) := ⟨rfl, rfl, rfl, by decide +kernel, rfl, by decide +kernel, by decide +kernel⟩
theorem sc_is_place : FnScope ["held", "value"] ["held", "value"] (defScope s_is_place) := ⟨rfl, rfl, rfl, by decide +kernel, rfl, by decide +kernel, by decide +kernel⟩
theorem sc_is_form : FnScope ["value"] ["value"] (defScope s_is_form) := ⟨rfl, rfl, rfl, by decide +kernel, rfl, by decide +kernel, by decide +kernel⟩
theorem sc_is_doubt : FnScope ["events", "value"] ["events", "value"] (defScope s_is_doubt) := ⟨rfl, rfl, rfl, by decide +kernel, rfl, by decide +kernel, by decide +kernel⟩
theorem sc_is_move : FnScope ["held", "value"] ["held", "value"] (defScope s_is_move) := ⟨rfl, rfl, rfl, by decide +kernel, rfl, by decide +kernel, by decide +kernel⟩
theorem sc_is_event : FnScope ["held", "events", "value", "day", "kind"] ["held", "events", "value"] (defScope s_is_event) := ⟨rfl, rfl, rfl, by decide +kernel, rfl, by decide +kernel, by decide +kernel⟩
theorem sc_held_behind : FnScope ["held", "event", "later", "place"] ["held", "event"] (defScope s_held_behind) := ⟨rfl, rfl, rfl, by decide +kernel, rfl, by decide +kernel, by decide +kernel⟩
theorem sc_are_letters : FnScope ["value", "sign"] ["value"] (defScope s_are_letters) := ⟨rfl, rfl, rfl, by decide +kernel, rfl, by decide +kernel, by decide +kernel⟩
theorem sc_is_name : FnScope ["value"] ["value"] (defScope s_is_name) := ⟨rfl, rfl, rfl, by decide +kernel, rfl, by decide +kernel, by decide +kernel⟩
theorem sc_is_pair : FnScope ["value"] ["value"] (defScope s_is_pair) := ⟨rfl, rfl, rfl, by decide +kernel, rfl, by decide +kernel, by decide +kernel⟩
theorem sc_check_places : FnScope ["places", "labels", "index", "place"] ["places"] (defScope s_check_places) := ⟨rfl, rfl, rfl, by decide +kernel, rfl, by decide +kernel, by decide +kernel⟩
theorem sc_held_rows : FnScope ["places", "events", "rows", "index", "event", "name", "label"] ["places", "events"] (defScope s_held_rows) := ⟨rfl, rfl, rfl, by decide +kernel, rfl, by decide +kernel, by decide +kernel⟩
theorem sc_need_hall : FnScope ["value"] ["value"] (defScope s_need_hall) := ⟨rfl, rfl, rfl, by decide +kernel, rfl, by decide +kernel, by decide +kernel⟩
theorem sc_need_event : FnScope ["hall", "event"] ["hall", "event"] (defScope s_need_event) := ⟨rfl, rfl, rfl, by decide +kernel, rfl, by decide +kernel, by decide +kernel⟩
theorem sc_need_place : FnScope ["hall", "place"] ["hall", "place"] (defScope s_need_place) := ⟨rfl, rfl, rfl, by decide +kernel, rfl, by decide +kernel, by decide +kernel⟩
theorem sc_need_pour : FnScope ["hall", "pour"] ["hall", "pour"] (defScope s_need_pour) := ⟨rfl, rfl, rfl, by decide +kernel, rfl, by decide +kernel, by decide +kernel⟩
theorem sc_is_left : FnScope ["hall", "index", "place", "event"] ["hall", "index", "place"] (defScope s_is_left) := ⟨rfl, rfl, rfl, by decide +kernel, rfl, by decide +kernel, by decide +kernel⟩
theorem sc_ways_from : FnScope ["hall", "pour", "event", "ways", "index", "told", "later", "place"] ["hall", "pour", "event"] (defScope s_ways_from) := ⟨rfl, rfl, rfl, by decide +kernel, rfl, by decide +kernel, by decide +kernel⟩
theorem sc_need_link : FnScope ["hall", "event", "place", "pour"] ["hall", "event", "place", "pour"] (defScope s_need_link) := ⟨rfl, rfl, rfl, by decide +kernel, rfl, by decide +kernel, by decide +kernel⟩
theorem sc_is_linked : FnScope ["hall", "event", "place", "pour"] ["hall", "event", "place", "pour"] (defScope s_is_linked) := ⟨rfl, rfl, rfl, by decide +kernel, rfl, by decide +kernel, by decide +kernel⟩
theorem sc_way : FnScope ["hall", "event", "place", "pour"] ["hall", "event", "place", "pour"] (defScope s_way) := ⟨rfl, rfl, rfl, by decide +kernel, rfl, by decide +kernel, by decide +kernel⟩
theorem sc_law_well : FnScope ["script", "turn", "own", "stir", "cell"] ["script", "turn"] (defScope s_law_well) := ⟨rfl, rfl, rfl, by decide +kernel, rfl, by decide +kernel, by decide +kernel⟩
theorem sc_law_take : FnScope ["well", "many", "figure", "by"] ["well", "many"] (defScope s_law_take) := ⟨rfl, rfl, rfl, by decide +kernel, rfl, by decide +kernel, by decide +kernel⟩
theorem sc_law_pick : FnScope ["well", "some"] ["well", "some"] (defScope s_law_pick) := ⟨rfl, rfl, rfl, by decide +kernel, rfl, by decide +kernel, by decide +kernel⟩
theorem sc_law_letters : FnScope ["well", "many", "turn"] ["well", "many"] (defScope s_law_letters) := ⟨rfl, rfl, rfl, by decide +kernel, rfl, by decide +kernel, by decide +kernel⟩
theorem sc_law_same : FnScope ["told", "due", "at"] ["told", "due"] (defScope s_law_same) := ⟨rfl, rfl, rfl, by decide +kernel, rfl, by decide +kernel, by decide +kernel⟩
theorem sc_law_name : FnScope ["well", "taken", "barred", "turn", "lot", "found", "many", "each"] ["well", "taken"] (defScope s_law_name) := ⟨rfl, rfl, rfl, by decide +kernel, rfl, by decide +kernel, by decide +kernel⟩
theorem sc_law_places : FnScope ["well", "many", "labels", "names", "tags", "turn", "name"] ["well", "many", "labels"] (defScope s_law_places) := ⟨rfl, rfl, rfl, by decide +kernel, rfl, by decide +kernel, by decide +kernel⟩
theorem sc_law_bounds : FnScope ["well", "number", "most", "low"] ["well", "number", "most"] (defScope s_law_bounds) := ⟨rfl, rfl, rfl, by decide +kernel, rfl, by decide +kernel, by decide +kernel⟩
theorem sc_law_taken : FnScope ["well", "total", "bad", "count", "low"] ["well", "total", "bad"] (defScope s_law_taken) := ⟨rfl, rfl, rfl, by decide +kernel, rfl, by decide +kernel, by decide +kernel⟩
theorem sc_law_one_event : FnScope ["well", "names", "totals", "bads", "events", "day", "most", "news", "place", "lot", "total", "bad", "pours", "at", "low", "high", "count", "number", "other", "event", "each"] ["well", "names", "totals", "bads", "events", "day", "most", "news"] (defScope s_law_one_event) := ⟨rfl, rfl, rfl, by decide +kernel, rfl, by decide +kernel, by decide +kernel⟩
theorem sc_law_drawn : FnScope ["well", "places", "many", "most", "news", "names", "events", "totals", "bads", "day", "name", "turn", "place", "event"] ["well", "places", "many", "most", "news"] (defScope s_law_drawn) := ⟨rfl, rfl, rfl, by decide +kernel, rfl, by decide +kernel, by decide +kernel⟩
theorem sc_law_totals : FnScope ["places", "events", "now", "found", "place", "event"] ["places", "events"] (defScope s_law_totals) := ⟨rfl, rfl, rfl, by decide +kernel, rfl, by decide +kernel, by decide +kernel⟩
theorem sc_law_follow : FnScope ["events", "totals", "pour", "event", "found", "at", "kind", "fresh", "name", "taken"] ["events", "totals", "pour", "event"] (defScope s_law_follow) := ⟨rfl, rfl, rfl, by decide +kernel, rfl, by decide +kernel, by decide +kernel⟩
theorem sc_law_is_way : FnScope ["events", "totals", "value", "event", "name", "pour", "here", "at", "kind", "each"] ["events", "totals", "value", "event", "name", "pour"] (defScope s_law_is_way) := ⟨rfl, rfl, rfl, by decide +kernel, rfl, by decide +kernel, by decide +kernel⟩
theorem sc_law_pours : FnScope ["events", "at", "event"] ["events"] (defScope s_law_pours) := ⟨rfl, rfl, rfl, by decide +kernel, rfl, by decide +kernel, by decide +kernel⟩
theorem sc_law_asked : FnScope ["well", "places", "events", "many", "hall", "totals", "pours", "turn", "pour", "event", "due", "name", "label", "told", "shown"] ["well", "places", "events", "many"] (defScope s_law_asked) := ⟨rfl, rfl, rfl, by decide +kernel, rfl, by decide +kernel, by decide +kernel⟩
theorem sc_law_chain : FnScope ["well", "places", "count", "names", "turned", "events", "left", "first", "whole", "turn", "here", "there", "place"] ["well"] (defScope s_law_chain) := ⟨rfl, rfl, rfl, by decide +kernel, rfl, by decide +kernel, by decide +kernel⟩
theorem sc_law_emptied : FnScope ["well", "places", "count", "one", "other", "gone", "events", "hall", "moved", "told"] ["well"] (defScope s_law_emptied) := ⟨rfl, rfl, rfl, by decide +kernel, rfl, by decide +kernel, by decide +kernel⟩
theorem sc_law_round : FnScope ["well", "turn", "places", "events", "history"] ["well"] (defScope s_law_round) := ⟨rfl, rfl, rfl, by decide +kernel, rfl, by decide +kernel, by decide +kernel⟩
theorem sc_law : FnScope ["script", "turn"] ["script"] (defScope s_law) := ⟨rfl, rfl, rfl, by decide +kernel, rfl, by decide +kernel, by decide +kernel⟩
theorem sc_Hall_init : FnScope ["self", "places", "events", "name", "label"] ["self", "places", "events"] (defScope s_Hall_init) := ⟨rfl, rfl, rfl, by decide +kernel, rfl, by decide +kernel, by decide +kernel⟩
structure Adr where
  f_is_whole : Addr
  d_is_whole : FuncData
  f_is_number : Addr
  d_is_number : FuncData
  f_are_bounds : Addr
  d_are_bounds : FuncData
  f_need_number : Addr
  d_need_number : FuncData
  f_is_place : Addr
  d_is_place : FuncData
  f_is_form : Addr
  d_is_form : FuncData
  f_is_doubt : Addr
  d_is_doubt : FuncData
  f_is_move : Addr
  d_is_move : FuncData
  f_is_event : Addr
  d_is_event : FuncData
  f_held_behind : Addr
  d_held_behind : FuncData
  f_are_letters : Addr
  d_are_letters : FuncData
  f_is_name : Addr
  d_is_name : FuncData
  f_is_pair : Addr
  d_is_pair : FuncData
  f_check_places : Addr
  d_check_places : FuncData
  f_held_rows : Addr
  d_held_rows : FuncData
  f_need_hall : Addr
  d_need_hall : FuncData
  f_need_event : Addr
  d_need_event : FuncData
  f_need_place : Addr
  d_need_place : FuncData
  f_need_pour : Addr
  d_need_pour : FuncData
  f_is_left : Addr
  d_is_left : FuncData
  f_ways_from : Addr
  d_ways_from : FuncData
  f_need_link : Addr
  d_need_link : FuncData
  f_is_linked : Addr
  d_is_linked : FuncData
  f_way : Addr
  d_way : FuncData
  f_law_well : Addr
  d_law_well : FuncData
  f_law_take : Addr
  d_law_take : FuncData
  f_law_pick : Addr
  d_law_pick : FuncData
  f_law_letters : Addr
  d_law_letters : FuncData
  f_law_same : Addr
  d_law_same : FuncData
  f_law_name : Addr
  d_law_name : FuncData
  f_law_places : Addr
  d_law_places : FuncData
  f_law_bounds : Addr
  d_law_bounds : FuncData
  f_law_taken : Addr
  d_law_taken : FuncData
  f_law_one_event : Addr
  d_law_one_event : FuncData
  f_law_drawn : Addr
  d_law_drawn : FuncData
  f_law_totals : Addr
  d_law_totals : FuncData
  f_law_follow : Addr
  d_law_follow : FuncData
  f_law_is_way : Addr
  d_law_is_way : FuncData
  f_law_pours : Addr
  d_law_pours : FuncData
  f_law_asked : Addr
  d_law_asked : FuncData
  f_law_chain : Addr
  d_law_chain : FuncData
  f_law_emptied : Addr
  d_law_emptied : FuncData
  f_law_round : Addr
  d_law_round : FuncData
  f_law : Addr
  d_law : FuncData
  f_Hall_init : Addr
  d_Hall_init : FuncData
  c_MOST_EVENTS : Value
  c_MOST_DAY : Value
  c_MOST_COUNT : Value
  W_SIZES : Addr
  es_SIZES : Array DictEntry
  n_SIZES : Nat
  c_LETTERS : Value
  c_LONGEST : Value
  W_WORDS : Addr
  es_WORDS : Array DictEntry
  n_WORDS : Nat
  c_MOST_PLACES : Value
  c_MOST_LABELS : Value
  W_TAKEN : Addr
  es_TAKEN : Array DictEntry
  n_TAKEN : Nat
  C_Hall : Addr
def l_SIZES : List Str := ["pour", "move", "away", "sample", "look", "doubt"]
def l_WORDS : List Str := ["away", "doubt", "look", "move", "none", "open", "pour", "recall", "sample", "span", "state", "stop", "store", "to", "undo", "worst"]
def l_TAKEN : List Str := ["move", "away", "sample"]
structure Txt (K : PySem.W.Frag) (mg : Str → Option Value) (A : Adr) (w : World) : Prop where
  F_is_whole : Fun K "is_whole" "is_whole" s_is_whole A.f_is_whole A.d_is_whole
  b_is_whole : Binds K A.d_is_whole ["value"] []
  m_is_whole : mg "is_whole" = some (.ref A.f_is_whole)
  F_is_number : Fun K "is_number" "is_number" s_is_number A.f_is_number A.d_is_number
  b_is_number : Binds K A.d_is_number ["value", "low", "high"] []
  m_is_number : mg "is_number" = some (.ref A.f_is_number)
  F_are_bounds : Fun K "are_bounds" "are_bounds" s_are_bounds A.f_are_bounds A.d_are_bounds
  b_are_bounds : Binds K A.d_are_bounds ["least", "most", "top"] []
  m_are_bounds : mg "are_bounds" = some (.ref A.f_are_bounds)
  F_need_number : Fun K "need_number" "need_number" s_need_number A.f_need_number A.d_need_number
  b_need_number : Binds K A.d_need_number ["value", "low", "high"] []
  m_need_number : mg "need_number" = some (.ref A.f_need_number)
  F_is_place : Fun K "is_place" "is_place" s_is_place A.f_is_place A.d_is_place
  b_is_place : Binds K A.d_is_place ["held", "value"] []
  m_is_place : mg "is_place" = some (.ref A.f_is_place)
  F_is_form : Fun K "is_form" "is_form" s_is_form A.f_is_form A.d_is_form
  b_is_form : Binds K A.d_is_form ["value"] []
  m_is_form : mg "is_form" = some (.ref A.f_is_form)
  F_is_doubt : Fun K "is_doubt" "is_doubt" s_is_doubt A.f_is_doubt A.d_is_doubt
  b_is_doubt : Binds K A.d_is_doubt ["events", "value"] []
  m_is_doubt : mg "is_doubt" = some (.ref A.f_is_doubt)
  F_is_move : Fun K "is_move" "is_move" s_is_move A.f_is_move A.d_is_move
  b_is_move : Binds K A.d_is_move ["held", "value"] []
  m_is_move : mg "is_move" = some (.ref A.f_is_move)
  F_is_event : Fun K "is_event" "is_event" s_is_event A.f_is_event A.d_is_event
  b_is_event : Binds K A.d_is_event ["held", "events", "value"] []
  m_is_event : mg "is_event" = some (.ref A.f_is_event)
  F_held_behind : Fun K "held_behind" "held_behind" s_held_behind A.f_held_behind A.d_held_behind
  b_held_behind : Binds K A.d_held_behind ["held", "event"] []
  m_held_behind : mg "held_behind" = some (.ref A.f_held_behind)
  F_are_letters : Fun K "are_letters" "are_letters" s_are_letters A.f_are_letters A.d_are_letters
  b_are_letters : Binds K A.d_are_letters ["value"] []
  m_are_letters : mg "are_letters" = some (.ref A.f_are_letters)
  F_is_name : Fun K "is_name" "is_name" s_is_name A.f_is_name A.d_is_name
  b_is_name : Binds K A.d_is_name ["value"] []
  m_is_name : mg "is_name" = some (.ref A.f_is_name)
  F_is_pair : Fun K "is_pair" "is_pair" s_is_pair A.f_is_pair A.d_is_pair
  b_is_pair : Binds K A.d_is_pair ["value"] []
  m_is_pair : mg "is_pair" = some (.ref A.f_is_pair)
  F_check_places : Fun K "check_places" "check_places" s_check_places A.f_check_places A.d_check_places
  b_check_places : Binds K A.d_check_places ["places"] []
  m_check_places : mg "check_places" = some (.ref A.f_check_places)
  F_held_rows : Fun K "held_rows" "held_rows" s_held_rows A.f_held_rows A.d_held_rows
  b_held_rows : Binds K A.d_held_rows ["places", "events"] []
  m_held_rows : mg "held_rows" = some (.ref A.f_held_rows)
  F_need_hall : Fun K "need_hall" "need_hall" s_need_hall A.f_need_hall A.d_need_hall
  b_need_hall : Binds K A.d_need_hall ["value"] []
  m_need_hall : mg "need_hall" = some (.ref A.f_need_hall)
  F_need_event : Fun K "need_event" "need_event" s_need_event A.f_need_event A.d_need_event
  b_need_event : Binds K A.d_need_event ["hall", "event"] []
  m_need_event : mg "need_event" = some (.ref A.f_need_event)
  F_need_place : Fun K "need_place" "need_place" s_need_place A.f_need_place A.d_need_place
  b_need_place : Binds K A.d_need_place ["hall", "place"] []
  m_need_place : mg "need_place" = some (.ref A.f_need_place)
  F_need_pour : Fun K "need_pour" "need_pour" s_need_pour A.f_need_pour A.d_need_pour
  b_need_pour : Binds K A.d_need_pour ["hall", "pour"] []
  m_need_pour : mg "need_pour" = some (.ref A.f_need_pour)
  F_is_left : Fun K "is_left" "is_left" s_is_left A.f_is_left A.d_is_left
  b_is_left : Binds K A.d_is_left ["hall", "index", "place"] []
  m_is_left : mg "is_left" = some (.ref A.f_is_left)
  F_ways_from : Fun K "ways_from" "ways_from" s_ways_from A.f_ways_from A.d_ways_from
  b_ways_from : Binds K A.d_ways_from ["hall", "pour", "event"] []
  m_ways_from : mg "ways_from" = some (.ref A.f_ways_from)
  F_need_link : Fun K "need_link" "need_link" s_need_link A.f_need_link A.d_need_link
  b_need_link : Binds K A.d_need_link ["hall", "event", "place", "pour"] []
  m_need_link : mg "need_link" = some (.ref A.f_need_link)
  F_is_linked : Fun K "is_linked" "is_linked" s_is_linked A.f_is_linked A.d_is_linked
  b_is_linked : Binds K A.d_is_linked ["hall", "event", "place", "pour"] []
  m_is_linked : mg "is_linked" = some (.ref A.f_is_linked)
  F_way : Fun K "way" "way" s_way A.f_way A.d_way
  b_way : Binds K A.d_way ["hall", "event", "place", "pour"] []
  m_way : mg "way" = some (.ref A.f_way)
  F_law_well : Fun K "_law_well" "_law_well" s_law_well A.f_law_well A.d_law_well
  b_law_well : Binds K A.d_law_well ["script", "turn"] []
  m_law_well : mg "_law_well" = some (.ref A.f_law_well)
  F_law_take : Fun K "_law_take" "_law_take" s_law_take A.f_law_take A.d_law_take
  b_law_take : Binds K A.d_law_take ["well", "many"] []
  m_law_take : mg "_law_take" = some (.ref A.f_law_take)
  F_law_pick : Fun K "_law_pick" "_law_pick" s_law_pick A.f_law_pick A.d_law_pick
  b_law_pick : Binds K A.d_law_pick ["well", "some"] []
  m_law_pick : mg "_law_pick" = some (.ref A.f_law_pick)
  F_law_letters : Fun K "_law_letters" "_law_letters" s_law_letters A.f_law_letters A.d_law_letters
  b_law_letters : Binds K A.d_law_letters ["well", "many"] []
  m_law_letters : mg "_law_letters" = some (.ref A.f_law_letters)
  F_law_same : Fun K "_law_same" "_law_same" s_law_same A.f_law_same A.d_law_same
  b_law_same : Binds K A.d_law_same ["told", "due"] []
  m_law_same : mg "_law_same" = some (.ref A.f_law_same)
  F_law_name : Fun K "_law_name" "_law_name" s_law_name A.f_law_name A.d_law_name
  b_law_name : Binds K A.d_law_name ["well", "taken"] []
  m_law_name : mg "_law_name" = some (.ref A.f_law_name)
  F_law_places : Fun K "_law_places" "_law_places" s_law_places A.f_law_places A.d_law_places
  b_law_places : Binds K A.d_law_places ["well", "many", "labels"] []
  m_law_places : mg "_law_places" = some (.ref A.f_law_places)
  F_law_bounds : Fun K "_law_bounds" "_law_bounds" s_law_bounds A.f_law_bounds A.d_law_bounds
  b_law_bounds : Binds K A.d_law_bounds ["well", "number", "most"] []
  m_law_bounds : mg "_law_bounds" = some (.ref A.f_law_bounds)
  F_law_taken : Fun K "_law_taken" "_law_taken" s_law_taken A.f_law_taken A.d_law_taken
  b_law_taken : Binds K A.d_law_taken ["well", "total", "bad"] []
  m_law_taken : mg "_law_taken" = some (.ref A.f_law_taken)
  F_law_one_event : Fun K "_law_one_event" "_law_one_event" s_law_one_event A.f_law_one_event A.d_law_one_event
  b_law_one_event : Binds K A.d_law_one_event ["well", "names", "totals", "bads", "events", "day", "most", "news"] []
  m_law_one_event : mg "_law_one_event" = some (.ref A.f_law_one_event)
  F_law_drawn : Fun K "_law_drawn" "_law_drawn" s_law_drawn A.f_law_drawn A.d_law_drawn
  b_law_drawn : Binds K A.d_law_drawn ["well", "places", "many", "most", "news"] []
  m_law_drawn : mg "_law_drawn" = some (.ref A.f_law_drawn)
  F_law_totals : Fun K "_law_totals" "_law_totals" s_law_totals A.f_law_totals A.d_law_totals
  b_law_totals : Binds K A.d_law_totals ["places", "events"] []
  m_law_totals : mg "_law_totals" = some (.ref A.f_law_totals)
  F_law_follow : Fun K "_law_follow" "_law_follow" s_law_follow A.f_law_follow A.d_law_follow
  b_law_follow : Binds K A.d_law_follow ["events", "totals", "pour", "event"] []
  m_law_follow : mg "_law_follow" = some (.ref A.f_law_follow)
  F_law_is_way : Fun K "_law_is_way" "_law_is_way" s_law_is_way A.f_law_is_way A.d_law_is_way
  b_law_is_way : Binds K A.d_law_is_way ["events", "totals", "value", "event", "name", "pour"] []
  m_law_is_way : mg "_law_is_way" = some (.ref A.f_law_is_way)
  F_law_pours : Fun K "_law_pours" "_law_pours" s_law_pours A.f_law_pours A.d_law_pours
  b_law_pours : Binds K A.d_law_pours ["events"] []
  m_law_pours : mg "_law_pours" = some (.ref A.f_law_pours)
  F_law_asked : Fun K "_law_asked" "_law_asked" s_law_asked A.f_law_asked A.d_law_asked
  b_law_asked : Binds K A.d_law_asked ["well", "places", "events", "many"] []
  m_law_asked : mg "_law_asked" = some (.ref A.f_law_asked)
  F_law_chain : Fun K "_law_chain" "_law_chain" s_law_chain A.f_law_chain A.d_law_chain
  b_law_chain : Binds K A.d_law_chain ["well"] []
  m_law_chain : mg "_law_chain" = some (.ref A.f_law_chain)
  F_law_emptied : Fun K "_law_emptied" "_law_emptied" s_law_emptied A.f_law_emptied A.d_law_emptied
  b_law_emptied : Binds K A.d_law_emptied ["well"] []
  m_law_emptied : mg "_law_emptied" = some (.ref A.f_law_emptied)
  F_law_round : Fun K "_law_round" "_law_round" s_law_round A.f_law_round A.d_law_round
  b_law_round : Binds K A.d_law_round ["well"] []
  m_law_round : mg "_law_round" = some (.ref A.f_law_round)
  F_law : Fun K "law" "law" s_law A.f_law A.d_law
  b_law : Binds K A.d_law ["script"] []
  m_law : mg "law" = some (.ref A.f_law)
  F_Hall_init : Fun K "__init__" "Hall.__init__" s_Hall_init A.f_Hall_init A.d_Hall_init
  b_Hall_init : Binds K A.d_Hall_init ["self", "places", "events"] []
  z_len : mg "len" = none
  z_range : mg "range" = none
  z_isinstance : mg "isinstance" = none
  z_all : mg "all" = none
  z_any : mg "any" = none
  z_tuple : mg "tuple" = none
  z_list : mg "list" = none
  z_sorted : mg "sorted" = none
  z_set : mg "set" = none
  z_enumerate : mg "enumerate" = none
  z_max : mg "max" = none
  z_min : mg "min" = none
  z_int : mg "int" = none
  z_sum : mg "sum" = none
  z_abs : mg "abs" = none
  z_divmod : mg "divmod" = none
  z_str : mg "str" = none
  z_bool : mg "bool" = none
  z_dict : mg "dict" = none
  c_MOST_EVENTS : mg "MOST_EVENTS" = some A.c_MOST_EVENTS
  r_MOST_EVENTS : RelV (.int 40) A.c_MOST_EVENTS
  c_MOST_DAY : mg "MOST_DAY" = some A.c_MOST_DAY
  r_MOST_DAY : RelV (.int 999) A.c_MOST_DAY
  c_MOST_COUNT : mg "MOST_COUNT" = some A.c_MOST_COUNT
  r_MOST_COUNT : RelV (.int 999) A.c_MOST_COUNT
  c_SIZES : mg "SIZES" = some (.ref A.W_SIZES)
  k_SIZES : KDict K w A.W_SIZES A.es_SIZES A.n_SIZES
  w_SIZES : WordsK K A.W_SIZES l_SIZES
  c_LETTERS : mg "LETTERS" = some A.c_LETTERS
  r_LETTERS : RelV (.str "abcdefghijklmnopqrstuvwxyz") A.c_LETTERS
  c_LONGEST : mg "LONGEST" = some A.c_LONGEST
  r_LONGEST : RelV (.int 8) A.c_LONGEST
  c_WORDS : mg "WORDS" = some (.ref A.W_WORDS)
  k_WORDS : KDict K w A.W_WORDS A.es_WORDS A.n_WORDS
  w_WORDS : WordsK K A.W_WORDS l_WORDS
  c_MOST_PLACES : mg "MOST_PLACES" = some A.c_MOST_PLACES
  r_MOST_PLACES : RelV (.int 12) A.c_MOST_PLACES
  c_MOST_LABELS : mg "MOST_LABELS" = some A.c_MOST_LABELS
  r_MOST_LABELS : RelV (.int 8) A.c_MOST_LABELS
  c_TAKEN : mg "TAKEN" = some (.ref A.W_TAKEN)
  k_TAKEN : KDict K w A.W_TAKEN A.es_TAKEN A.n_TAKEN
  w_TAKEN : WordsK K A.W_TAKEN l_TAKEN
  m_Hall : mg "Hall" = some (.ref A.C_Hall)
  K_Hall : Cls K A.C_Hall
  I_Hall : C8.InsC K A.C_Hall
  M_Hall : Mk K A.C_Hall A.f_Hall_init
  n_held : NoAttr K A.C_Hall "held"
  n_places : NoAttr K A.C_Hall "places"
  n_events : NoAttr K A.C_Hall "events"
  n_parts : NoAttr K A.C_Hall "parts"
  n_tags : NoAttr K A.C_Hall "tags"
  kb_is_linked : KBinds K A.d_is_linked ["hall", "event", "place", "pour"] ["pour", "place", "event", "hall"] (fun us zs => us ++ zs.reverse) (fun us zs => us ++ zs.reverse)
  kb_way : KBinds K A.d_way ["hall", "event", "place", "pour"] ["place", "pour", "hall", "event"] permW permW
  i_SIZES : ∀ p ∈ li_SIZES, KDct K w A.W_SIZES p.1 (.int p.2)
  i_TAKEN : ∀ p ∈ li_TAKEN, KDct K w A.W_TAKEN p.1 (.int p.2)
end T25

namespace T25
open PySem PySem.Spec PyProof.Rows L2 Z
/-! events and what places hold -/
inductive Ev where
  | pour (d : Int) (p : Str) (n lo hi : Int) | move (d : Int) (p q : Str) (n : Int) | away (d : Int) (p : Str) (n : Int)
  | sample (d : Int) (p : Str) (n lo hi : Int) | look (d : Int) (p : Str) (lo hi : Int) | doubt (d : Int) (i : Nat) (lo hi : Int)
def Ev.day : Ev → Int
  | .pour d _ _ _ _ => d | .move d _ _ _ => d | .away d _ _ => d | .sample d _ _ _ _ => d | .look d _ _ _ => d | .doubt d _ _ _ => d
def Ev.kind : Ev → Str
  | .pour .. => "pour" | .move .. => "move" | .away .. => "away" | .sample .. => "sample" | .look .. => "look" | .doubt .. => "doubt"
def Ev.isPour : Ev → Bool
  | .pour .. => true
  | _ => false
def Ev.cnt : Ev → Int
  | .pour _ _ n _ _ => n | .move _ _ _ n => n | .away _ _ n => n | .sample _ _ n _ _ => n | _ => 0
def evL : Ev → List D
  | .pour d p n lo hi => [.str "pour", .int d, .str p, .int n, .int lo, .int hi]
  | .move d p q n => [.str "move", .int d, .str p, .str q, .int n]
  | .away d p n => [.str "away", .int d, .str p, .int n]
  | .sample d p n lo hi => [.str "sample", .int d, .str p, .int n, .int lo, .int hi]
  | .look d p lo hi => [.str "look", .int d, .str p, .int lo, .int hi]
  | .doubt d i lo hi => [.str "doubt", .int d, .int (i : Int), .int lo, .int hi]
def evD (e : Ev) : D := .tup (evL e)
theorem evL_flat (e : Ev) : ∀ y ∈ evL e, Flat y := by
  cases e <;> (intro y hy; simp only [evL, List.mem_cons, List.not_mem_nil, or_false] at hy; rcases hy with rfl | rfl | rfl | rfl | rfl | rfl <;> trivial) <;> skip
theorem ev_kind (e : Ev) : L2.atI (evL e) 0 = some (.str e.kind) := by cases e <;> rfl
theorem ev_day (e : Ev) : L2.atI (evL e) 1 = some (.int e.day) := by cases e <;> rfl
/-- the place, where there is one -/
def Ev.at? : Ev → Option Str
  | .pour _ p _ _ _ => some p | .move _ p _ _ => some p | .away _ p _ => some p | .sample _ p _ _ _ => some p | .look _ p _ _ => some p | .doubt .. => none
def up (h : Str → Int) (p : Str) (x : Int) : Str → Int := fun z => if z = p then h z + x else h z
def step (h : Str → Int) : Ev → Str → Int
  | .pour _ p n _ _ => up h p n
  | .move _ p q n => up (up h p (-n)) q n
  | .away _ p n => up h p (-n)
  | .sample _ p n _ _ => up h p (-n)
  | _ => h
def hAt (es : List Ev) (k : Nat) : Str → Int := (es.take k).foldl step fun _ => 0
theorem hAt_zero (es : List Ev) : hAt es 0 = fun _ => 0 := rfl
theorem hAt_succ {es : List Ev} {k : Nat} {e : Ev} (h : es[k]? = some e) : hAt es (k + 1) = step (hAt es k) e := by
  unfold hAt; rw [List.take_add_one, h, List.foldl_append]; rfl
theorem hAt_take {es : List Ev} {k n : Nat} (h : k ≤ n) : hAt (es.take n) k = hAt es k := by
  unfold hAt; rw [List.take_take, Nat.min_eq_left h]
def hD (ns : List Str) (h : Str → Int) : List (Key × D) := ns.map fun z => ((Sum.inr z : Key), D.int (h z))
theorem hD_len (ns : List Str) (h : Str → Int) : (hD ns h).length = ns.length := by rw [hD, List.length_map]
theorem hD_keys (ns : List Str) (h : Str → Int) : keysD (hD ns h) = ns.map D.str := by rw [keysD, hD, List.map_map]; rfl
theorem val_map {α : Type} (f : α → Str) (g : α → D) (z : Str) : ∀ xs : List α, valD (xs.map fun a => ((Sum.inr (f a) : Key), g a)) (Sum.inr z) = (xs.find? fun a => decide (f a = z)).map g
  | [] => rfl
  | a :: r => by
    have ih := val_map f g z r
    unfold valD at ih ⊢
    rw [List.map_cons]
    by_cases e : f a = z
    · rw [List.find?_cons_of_pos (by simp [e]), List.find?_cons_of_pos (by simp [e])]; rfl
    · rw [List.find?_cons_of_neg (by simp [e]), List.find?_cons_of_neg (by simp [e])]; exact ih
theorem hD_val {ns : List Str} {h : Str → Int} {z : Str} (m : z ∈ ns) : valD (hD ns h) (Sum.inr z) = some (.int (h z)) := by
  unfold hD
  rw [val_map (fun z => z) (fun z => D.int (h z))]
  cases e : ns.find? fun a => decide (a = z) with
  | none => exact absurd (List.find?_eq_none.mp e z m) (by simp)
  | some y =>
    have := List.find?_some e
    simp at this
    rw [this]; rfl
theorem hD_some {ns : List Str} {h : Str → Int} {z : Str} : (valD (hD ns h) (Sum.inr z)).isSome = decide (z ∈ ns) := by
  by_cases m : z ∈ ns
  · rw [hD_val m]; simp [m]
  · unfold hD
    rw [val_map (fun z => z) (fun z => D.int (h z))]
    have : (ns.find? fun a => decide (a = z)) = none := List.find?_eq_none.mpr fun a ha => by simp; exact fun e => m (e ▸ ha)
    rw [this]; simp [m]
theorem any_map {α : Type} (f : α → Str) (g : α → D) (z : Str) (xs : List α) : ((xs.map fun a => ((Sum.inr (f a) : Key), g a)).any fun kv => decide (kv.1 = Sum.inr z)) = decide (z ∈ xs.map f) := by
  rw [List.any_map]
  by_cases m : z ∈ xs.map f
  · rw [decide_eq_true m]
    obtain ⟨a, ha, e⟩ := List.mem_map.mp m
    exact List.any_eq_true.mpr ⟨a, ha, by simp [e]⟩
  · rw [decide_eq_false m]
    refine List.any_eq_false.mpr fun a ha => ?_
    simp
    exact fun e => m (List.mem_map.mpr ⟨a, ha, e⟩)
theorem hD_put {ns : List Str} {h : Str → Int} {z : Str} {x : Int} (m : z ∈ ns) : putD (hD ns h) (Sum.inr z) (.int (h z + x)) = hD ns (up h z x) := by
  unfold putD
  rw [show ((hD ns h).any fun kv => decide (kv.1 = Sum.inr z)) = true by
    rw [hD, any_map (fun z => z) (fun z => D.int (h z)), List.map_id'']; simpa using m
    intro; rfl, if_pos rfl]
  unfold hD
  rw [List.map_map]
  refine List.map_congr_left fun y hy => ?_
  unfold up
  by_cases e : y = z
  · subst e; simp
  · simp [e]
theorem put_new {α : Type} (f : α → Str) (g : α → D) {xs : List α} {a : α} (m : f a ∉ xs.map f) : putD (xs.map fun a => ((Sum.inr (f a) : Key), g a)) (Sum.inr (f a)) (g a) = (xs ++ [a]).map fun a => ((Sum.inr (f a) : Key), g a) := by
  unfold putD
  rw [any_map, if_neg (by simpa using m), List.map_append]; rfl
theorem hD_new {ns : List Str} {h : Str → Int} {z : Str} (m : z ∉ ns) : putD (hD ns h) (Sum.inr z) (.int (h z)) = hD (ns ++ [z]) h :=
  put_new (fun z => z) (fun z => D.int (h z)) (by rw [List.map_id'']; exact m; intro; rfl)
/-- the places that an event names -/
def Ev.In (ns : List Str) : Ev → Prop
  | .pour _ p _ _ _ => p ∈ ns | .move _ p q _ => p ∈ ns ∧ q ∈ ns | .away _ p _ => p ∈ ns | .sample _ p _ _ _ => p ∈ ns | .look _ p _ _ => p ∈ ns | .doubt .. => True
def lastDay (es : List Ev) : Int := match es.getLast? with
  | some e => e.day
  | none => 0
/-- an event that may follow -/
def Ev.Ok (ns : List Str) (es : List Ev) (h : Str → Int) : Ev → Prop
  | .pour _ p n lo hi => p ∈ ns ∧ 1 ≤ n ∧ n ≤ 999 ∧ 0 ≤ lo ∧ lo ≤ hi ∧ hi ≤ n
  | .move _ p q n => p ∈ ns ∧ q ∈ ns ∧ q ≠ p ∧ 1 ≤ n ∧ n ≤ h p
  | .away _ p n => p ∈ ns ∧ 1 ≤ n ∧ n ≤ h p
  | .sample _ p n lo hi => p ∈ ns ∧ 1 ≤ n ∧ n ≤ h p ∧ 0 ≤ lo ∧ lo ≤ hi ∧ hi ≤ n
  | .look _ p lo hi => p ∈ ns ∧ 0 ≤ lo ∧ lo ≤ hi ∧ hi ≤ h p
  | .doubt _ i lo hi => ∃ d p n l u, es[i]? = some (.pour d p n l u) ∧ 0 ≤ lo ∧ lo ≤ hi ∧ hi ≤ n
def OkE (ns : List Str) (es : List Ev) (h : Str → Int) (e : Ev) : Prop := lastDay es ≤ e.day ∧ 0 ≤ e.day ∧ e.day ≤ 999 ∧ e.Ok ns es h
theorem Ev.Ok.inn {ns : List Str} {es : List Ev} {h : Str → Int} {e : Ev} (o : e.Ok ns es h) : e.In ns := by
  cases e with
  | pour => exact o.1
  | move => exact ⟨o.1, o.2.1⟩
  | away => exact o.1
  | sample => exact o.1
  | look => exact o.1
  | doubt => trivial
structure OkEs (ns : List Str) (es : List Ev) : Prop where
  few : es.length ≤ 40
  ok : ∀ (k : Nat) (e : Ev), es[k]? = some e → OkE ns (es.take k) (hAt es k) e
end T25

set_option hygiene false
local macro_rules | `(tactic| walk_at "zk") => `(tactic| (repeat' first | with_reducible refine ws_seq ?_ | with_reducible refine ws_ret ?_ | with_reducible refine ws_if ?_ | with_reducible refine ws_newD ?_ | with_reducible refine ws_newL ?_ | with_reducible refine ws_asg ?_ | with_reducible refine ws_next ?_ | with_reducible refine ws_cont ?_ | with_reducible refine ws_break ?_ | with_reducible refine we_op ?_ | with_reducible refine we_un ?_ | with_reducible refine we_cb ?_ | with_reducible refine we_call ?_ | with_reducible refine we_if ?_ | with_reducible refine we_or ?_ | with_reducible refine we_and ?_ | with_reducible refine we_not ?_ | with_reducible refine we_chain ?_ | refine we_var rfl ?_ | with_reducible refine we_tup ?_ | with_reducible refine we_lst ?_ | refine ⟨Nat.le_of_ble_eq_true rfl, _, rfl, ?_⟩ | with_reducible refine we_int ?_ | with_reducible refine we_str ?_ | with_reducible refine we_bl ?_ | with_reducible refine we_non ?_ | with_reducible refine we_ty ?_ | with_reducible refine we_cref ?_ | with_reducible refine we_sl ?_ | with_reducible refine wo_none ?_ | with_reducible refine wo_some ?_ | refine wa_well rfl ?_ | with_reducible refine wa_cons ?_ | with_reducible refine wa_nil ?_ | with_reducible refine wt_test ?_ | with_reducible refine wt_B ?_ | with_reducible refine wt_and ?_ | with_reducible refine wt_or ?_ | with_reducible refine wt_not ?_ | with_reducible refine os_add_int ?_ | with_reducible refine os_sub ?_ | with_reducible refine os_eq_int ?_ | with_reducible refine os_ne_int ?_ | with_reducible refine os_eq_str ?_ | with_reducible refine os_ne_str ?_ | with_reducible refine os_lt_int ?_ | with_reducible refine os_le_int ?_ | with_reducible refine os_lt_str ?_ | with_reducible refine os_le_str ?_ | with_reducible refine os_gt ?_ | with_reducible refine os_ge ?_ | refine os_isN (oD_ncl _) ?_ | refine os_notN (oD_ncl _) ?_ | refine os_isN nofun ?_ | refine os_notN nofun ?_ | with_reducible refine cs_int ?_ | with_reducible refine cs_abs ?_ | refine cs_len rfl ?_ | refine cs_isi (b := true) rfl (by decide +kernel) ?_ | refine cs_isi (b := false) rfl (by decide +kernel) ?_ | with_reducible refine us_neg ?_ | refine os_ix_tup rfl ?_ | refine os_ix_lst rfl ?_ | refine le_keep ?_ | refine le_drop ?_ | refine le_nil | refine ⟨_, rfl, fun e => ?_, tf⟩ | refine ⟨_, rfl, ft, fun e => ?_⟩ | refine ⟨_, rfl, fun e => absurd e (by decide +kernel), fun _ => ?_⟩ | refine ⟨_, rfl, fun _ => ?_, fun e => absurd e (by decide +kernel)⟩ | refine ⟨_, rfl, fun e => ?_, fun e => ?_⟩ | refine ⟨_, rfl, ?_⟩ | with_reducible refine ⟨fun (e : _ = true) => ?_, tf⟩ | with_reducible refine ⟨ft, fun (e : _ = false) => ?_⟩ | with_reducible refine ⟨fun (e : _ = true) => ?_, fun (e : _ = false) => ?_⟩ | exact h | fail))
local macro_rules | `(tactic| walk_at "zt") => `(tactic| (repeat' first | with_reducible refine we_op ?_ | with_reducible refine we_un ?_ | with_reducible refine we_cb ?_ | with_reducible refine we_call ?_ | with_reducible refine we_if ?_ | with_reducible refine we_or ?_ | with_reducible refine we_and ?_ | with_reducible refine we_not ?_ | with_reducible refine we_chain ?_ | refine we_var rfl ?_ | with_reducible refine we_tup ?_ | with_reducible refine we_lst ?_ | refine ⟨Nat.le_of_ble_eq_true rfl, _, rfl, ?_⟩ | with_reducible refine we_int ?_ | with_reducible refine we_str ?_ | with_reducible refine we_bl ?_ | with_reducible refine we_non ?_ | with_reducible refine we_ty ?_ | with_reducible refine we_cref ?_ | with_reducible refine we_sl ?_ | with_reducible refine wo_none ?_ | with_reducible refine wo_some ?_ | refine wa_well rfl ?_ | with_reducible refine wa_cons ?_ | with_reducible refine wa_nil ?_ | with_reducible refine wt_test ?_ | with_reducible refine wt_B ?_ | with_reducible refine wt_and ?_ | with_reducible refine wt_or ?_ | with_reducible refine wt_not ?_ | with_reducible refine os_add_int ?_ | with_reducible refine os_sub ?_ | with_reducible refine os_eq_int ?_ | with_reducible refine os_ne_int ?_ | with_reducible refine os_eq_str ?_ | with_reducible refine os_ne_str ?_ | with_reducible refine os_lt_int ?_ | with_reducible refine os_le_int ?_ | with_reducible refine os_lt_str ?_ | with_reducible refine os_le_str ?_ | with_reducible refine os_gt ?_ | with_reducible refine os_ge ?_ | refine os_isN (oD_ncl _) ?_ | refine os_notN (oD_ncl _) ?_ | refine os_isN nofun ?_ | refine os_notN nofun ?_ | with_reducible refine cs_int ?_ | with_reducible refine cs_abs ?_ | refine cs_len rfl ?_ | refine cs_isi (b := true) rfl (by decide +kernel) ?_ | refine cs_isi (b := false) rfl (by decide +kernel) ?_ | with_reducible refine us_neg ?_ | refine os_ix_tup rfl ?_ | refine os_ix_lst rfl ?_ | refine le_keep ?_ | refine le_drop ?_ | refine le_nil | refine ⟨_, rfl, fun e => ?_, tf⟩ | refine ⟨_, rfl, ft, fun e => ?_⟩ | refine ⟨_, rfl, fun e => ?_, fun e => ?_⟩ | refine ⟨_, rfl, ?_⟩ | with_reducible refine ⟨fun (e : _ = true) => ?_, tf⟩ | with_reducible refine ⟨ft, fun (e : _ = false) => ?_⟩ | with_reducible refine ⟨fun (e : _ = true) => ?_, fun (e : _ = false) => ?_⟩ | exact h | fail))
local macro_rules | `(tactic| walk_at "zz") => `(tactic| (repeat' first | with_reducible refine ws_seq ?_ | with_reducible refine ws_ret ?_ | with_reducible refine ws_if ?_ | with_reducible refine ws_newD ?_ | with_reducible refine ws_newL ?_ | with_reducible refine ws_asg ?_ | with_reducible refine ws_next ?_ | with_reducible refine ws_cont ?_ | with_reducible refine ws_break ?_ | with_reducible refine we_op ?_ | with_reducible refine we_un ?_ | with_reducible refine we_cb ?_ | with_reducible refine we_call ?_ | with_reducible refine we_if ?_ | with_reducible refine we_or ?_ | with_reducible refine we_and ?_ | with_reducible refine we_not ?_ | with_reducible refine we_chain ?_ | refine we_var rfl ?_ | with_reducible refine we_tup ?_ | with_reducible refine we_lst ?_ | refine ⟨Nat.le_of_ble_eq_true rfl, _, rfl, ?_⟩ | with_reducible refine we_int ?_ | with_reducible refine we_str ?_ | with_reducible refine we_bl ?_ | with_reducible refine we_non ?_ | with_reducible refine we_ty ?_ | with_reducible refine we_cref ?_ | with_reducible refine we_sl ?_ | with_reducible refine wo_none ?_ | with_reducible refine wo_some ?_ | refine wa_well rfl ?_ | with_reducible refine wa_cons ?_ | with_reducible refine wa_nil ?_ | with_reducible refine wt_test ?_ | with_reducible refine wt_B ?_ | with_reducible refine wt_and ?_ | with_reducible refine wt_or ?_ | with_reducible refine wt_not ?_ | with_reducible refine os_add_int ?_ | with_reducible refine os_sub ?_ | with_reducible refine os_eq_int ?_ | with_reducible refine os_ne_int ?_ | with_reducible refine os_eq_str ?_ | with_reducible refine os_ne_str ?_ | with_reducible refine os_lt_int ?_ | with_reducible refine os_le_int ?_ | with_reducible refine os_lt_str ?_ | with_reducible refine os_le_str ?_ | with_reducible refine os_gt ?_ | with_reducible refine os_ge ?_ | refine os_isN (oD_ncl _) ?_ | refine os_notN (oD_ncl _) ?_ | refine os_isN nofun ?_ | refine os_notN nofun ?_ | with_reducible refine cs_int ?_ | with_reducible refine cs_abs ?_ | refine cs_len rfl ?_ | refine cs_isi (b := true) rfl (by decide +kernel) ?_ | refine cs_isi (b := false) rfl (by decide +kernel) ?_ | with_reducible refine us_neg ?_ | refine os_ix_tup rfl ?_ | refine os_ix_lst rfl ?_ | refine le_keep ?_ | refine le_drop ?_ | refine le_nil | refine ⟨_, rfl, fun e => ?_, tf⟩ | refine ⟨_, rfl, ft, fun e => ?_⟩ | refine ⟨_, rfl, fun e => ?_, fun e => ?_⟩ | refine ⟨_, rfl, ?_⟩ | with_reducible refine ⟨fun (e : _ = true) => ?_, tf⟩ | with_reducible refine ⟨ft, fun (e : _ = false) => ?_⟩ | with_reducible refine ⟨fun (e : _ = true) => ?_, fun (e : _ = false) => ?_⟩ | exact h | fail))
local macro_rules | `(tactic| walk_at "zkt") => `(tactic| (repeat' first | with_reducible refine we_op ?_ | with_reducible refine we_un ?_ | with_reducible refine we_cb ?_ | with_reducible refine we_call ?_ | with_reducible refine we_if ?_ | with_reducible refine we_or ?_ | with_reducible refine we_and ?_ | with_reducible refine we_not ?_ | with_reducible refine we_chain ?_ | refine we_var rfl ?_ | with_reducible refine we_tup ?_ | with_reducible refine we_lst ?_ | refine ⟨Nat.le_of_ble_eq_true rfl, _, rfl, ?_⟩ | with_reducible refine we_int ?_ | with_reducible refine we_str ?_ | with_reducible refine we_bl ?_ | with_reducible refine we_non ?_ | with_reducible refine we_ty ?_ | with_reducible refine we_cref ?_ | with_reducible refine we_sl ?_ | with_reducible refine wo_none ?_ | with_reducible refine wo_some ?_ | refine wa_well rfl ?_ | with_reducible refine wa_cons ?_ | with_reducible refine wa_nil ?_ | with_reducible refine wt_test ?_ | with_reducible refine wt_B ?_ | with_reducible refine wt_and ?_ | with_reducible refine wt_or ?_ | with_reducible refine wt_not ?_ | with_reducible refine os_add_int ?_ | with_reducible refine os_sub ?_ | with_reducible refine os_eq_int ?_ | with_reducible refine os_ne_int ?_ | with_reducible refine os_eq_str ?_ | with_reducible refine os_ne_str ?_ | with_reducible refine os_lt_int ?_ | with_reducible refine os_le_int ?_ | with_reducible refine os_lt_str ?_ | with_reducible refine os_le_str ?_ | with_reducible refine os_gt ?_ | with_reducible refine os_ge ?_ | refine os_isN (oD_ncl _) ?_ | refine os_notN (oD_ncl _) ?_ | refine os_isN nofun ?_ | refine os_notN nofun ?_ | with_reducible refine cs_int ?_ | with_reducible refine cs_abs ?_ | refine cs_len rfl ?_ | refine cs_isi (b := true) rfl (by decide +kernel) ?_ | refine cs_isi (b := false) rfl (by decide +kernel) ?_ | with_reducible refine us_neg ?_ | refine os_ix_tup rfl ?_ | refine os_ix_lst rfl ?_ | refine le_keep ?_ | refine le_drop ?_ | refine le_nil | refine ⟨_, rfl, fun e => ?_, tf⟩ | refine ⟨_, rfl, ft, fun e => ?_⟩ | refine ⟨_, rfl, fun e => absurd e (by decide +kernel), fun _ => ?_⟩ | refine ⟨_, rfl, fun _ => ?_, fun e => absurd e (by decide +kernel)⟩ | refine ⟨_, rfl, fun e => ?_, fun e => ?_⟩ | refine ⟨_, rfl, ?_⟩ | with_reducible refine ⟨fun (e : _ = true) => ?_, tf⟩ | with_reducible refine ⟨ft, fun (e : _ = false) => ?_⟩ | with_reducible refine ⟨fun (e : _ = true) => ?_, fun (e : _ = false) => ?_⟩ | exact h | fail))
namespace T25
open PySem PySem.Spec PyProof.Rows L2 Z
/-- a name as the program takes it -/
structure GoodName (z : Str) : Prop where
  n1 : 1 ≤ z.length
  n8 : z.length ≤ 8
  az : ∀ c, c ∈ z.cps.toList → 97 ≤ c ∧ c ≤ 122
  nw : z ∉ l_WORDS
theorem letters_mem : ∀ c : Nat, 97 ≤ c → c ≤ 122 → c ∈ (("abcdefghijklmnopqrstuvwxyz" : Str)).cps.toList := by
  intro c h1 h2
  have key : ∀ k : Fin 26, (97 + k.val) ∈ (("abcdefghijklmnopqrstuvwxyz" : Str)).cps.toList := by decide +kernel
  have := key ⟨c - 97, by omega⟩
  simpa [show 97 + (c - 97) = c by omega] using this
def ltS (a b : Str) : Prop := a.cps.toList < b.cps.toList
theorem enum_at {α : Type} {xs : List α} {f : α → D} {i : Nat} {d : D} (h : (enumD (xs.map f))[i]? = some d) : ∃ x, xs[i]? = some x ∧ d = .tup [.int (i : Int), f x] := by
  have hl : i < xs.length := by
    have := (List.getElem?_eq_some_iff.mp h).1
    rw [enumD_len, List.length_map] at this
    exact this
  refine ⟨xs[i], List.getElem?_eq_getElem hl, ?_⟩
  have := enumD_get (xs := xs.map f) (i := i) (x := f xs[i]) (by rw [List.getElem?_map, List.getElem?_eq_getElem hl]; rfl)
  rw [this] at h
  exact (Option.some.inj h).symm
theorem map_at {α : Type} {xs : List α} {f : α → D} {i : Nat} {d : D} (h : (xs.map f)[i]? = some d) : ∃ x, xs[i]? = some x ∧ d = f x := by
  rw [List.getElem?_map] at h
  obtain ⟨x, h1, h2⟩ := Option.map_eq_some_iff.mp h
  exact ⟨x, h1, h2.symm⟩
abbrev Pl := List (Str × Str)
def pD (q : Str × Str) : D := .tup [.str q.1, .str q.2]
structure OkP (ps : Pl) : Prop where
  n1 : 1 ≤ ps.length
  n12 : ps.length ≤ 12
  ok : ∀ q ∈ ps, GoodName q.1
  lb : ∃ ts : List Str, ts.length ≤ 8 ∧ (∀ t ∈ ts, GoodName t) ∧ ∀ q ∈ ps, q.2 = "" ∨ q.2 ∈ ts
  asc : ∀ (i : Nat) a b, ps[i]? = some a → ps[i + 1]? = some b → ltS a.1 b.1
section
variable {P : Program} {w : World} {K : PySem.W.Frag} {mg : Str → Option Value} {base : Heap} {A : Adr}
def S_are_letters : List AV → (D → Prop) → Prop := fun as Φ => ∃ z : Str, as = [.dat (.str z)] ∧ ((GoodName z ∧ Φ (.bl true)) ∨ (z = "" ∧ Φ (.bl false)))
theorem ok_are_letters (T : Txt K mg A w) : FnOk P w K mg base CX0 1 A.f_are_letters A.d_are_letters ["value"] (spA K S_are_letters) := by
  refine T.F_are_letters.ok sc_are_letters (fun vs H Q E h => spA_len h fun as Φ h => ?len) (fun cdv Ar outer s H vs Q E hr h => ?body)
  case body =>
    refine ⟨_, (pss_one (ps_ret (pe_and (pe_callB (show CallR _ _ (rIsi K) from call_isi) (by rfl) T.z_isinstance boot_isinstance (pa_cons (pv 0) (pa_cons (pe_bltn (v := .ty "str") rfl T.z_str (by decide +kernel) rfl) pa_nil))) (pe_and (pe_cmpR op_gt (pe_callB (show CallR _ _ (rLenU K) from call_lenU) (by rfl) T.z_len PySem.boot_len (pa_cons (pv 0) pa_nil)) pe_int (nomark _)) (pe_one (pe_callB (show CallR _ _ (rAll K) from cr_all rfl) (by rfl) T.z_all boot_all (pa_cons (pe_lc (own := [("sign", 1)]) rfl sc_are_letters.nd (pi_str (pv 0)) (blkOk_by (N := ["value", "sign"]) (sc := defScope s_are_letters) (by decide +kernel)) (fun _ _ _ _ _ => (pg_name (i := 1) sc_are_letters.nd rfl (by first | exact Or.inl rfl | exact Or.inr rfl))) (fun _ _ _ _ _ => pts_nil) (fun _ _ _ _ _ => (pe_cmpR (show OpR _ _ (rInU K) from op_inU hr) (pv 1) (pe_glob rfl T.c_LETTERS T.r_LETTERS) (by rfl)))) pa_nil))))))), fn_body (fun as Φ hs => ?_) vs H Q E h⟩
    obtain ⟨z, rfl, hz⟩ := hs
    have n8 : z.length ≤ 8 := hz.elim (fun q => q.1.n8) fun q => by rw [q.1]; decide
    refine ws_ret (we_and (we_cb (wa_cons (we_var rfl (wa_cons (we_ty (wa_nil (cs_isi rfl (by decide +kernel) ⟨true, rfl, fun _ => ?_, nofun⟩))))))))
    refine we_and (we_op (we_cb (wa_cons (we_var rfl (wa_nil (cs_lenS (by omega) (we_int (os_gt ⟨_, rfl, fun e => ?_, fun e => ?_⟩))))))))
    · rcases hz with ⟨gz, h⟩ | ⟨rfl, h⟩
      · refine we_cb (wa_cons (we_lcX (wr_name 1) (mono_name 1) (by simp) (wi_str (we_var rfl ⟨z, rfl, Nat, z.cps.toList, _, fun _ => some (.bl true), rfl, ?_, fun c hc => ?_, ?_⟩))))
        · exact Nat.le_trans (show z.cps.toList.length ≤ 8 by rw [Array.length_toList]; exact n8) (by decide)
        · refine wg_name (wt_true ⟨fun _ => we_op (we_var rfl (we_str (os_in_sign ?_))), nofun⟩)
          rw [decide_eq_true (letters_mem c (gz.az c hc).1 (gz.az c hc).2)]
        · rw [fm_map, show z.cps.toList.map (fun _ => D.bl true) = (z.cps.toList.map fun _ => true).map D.bl by rw [List.map_map]; rfl]
          refine wa_nil (cs_all ?_)
          rw [show (z.cps.toList.map fun _ => true).all id = true by simp]
          exact h
      · exact absurd e (by decide +kernel)
    · rcases hz with ⟨gz, h⟩ | ⟨rfl, h⟩
      · have n1 := gz.n1
        have := of_decide_eq_false e
        omega
      · exact h
  case len => obtain ⟨a, rfl, _⟩ := h; rfl
def S_is_name : List AV → (D → Prop) → Prop := fun as Φ => ∃ z : Str, as = [.dat (.str z)] ∧ ((GoodName z ∧ Φ (.bl true)) ∨ (z = "" ∧ Φ (.bl false)))
theorem ok_is_name (T : Txt K mg A w) : FnOk P w K mg base CX0 2 A.f_is_name A.d_is_name ["value"] (spA K S_is_name) := by
  have G_are_letters := ok_are_letters (P := P) (w := w) (base := base) T
  refine T.F_is_name.ok sc_is_name (fun vs H Q E h => spA_len h fun as Φ h => ?len) (fun cdv Ar outer s H vs Q E hr h => ?body)
  case body =>
    have hr_are_letters := hr.mono (k := _) (j := _) (by decide : 1 ≤ 1)
    refine ⟨_, (pss_one (ps_ret (pe_and (pe_call G_are_letters hr_are_letters rfl T.m_are_letters T.F_are_letters.kp T.b_are_letters .nil pass0 (pa_cons (pv 0) pa_nil)) (pe_and (pe_cmpR (show OpR _ _ (rLeU K) from op_leU hr) (pe_callB (show CallR _ _ (rLenU K) from call_lenU) (by rfl) T.z_len PySem.boot_len (pa_cons (pv 0) pa_nil)) (pe_glob rfl T.c_LONGEST T.r_LONGEST) (nomark _)) (pe_one (pe_cmpR (op_notIn_kd T.k_WORDS) (pv 0) (pe_glob (v := .ref A.W_WORDS) rfl T.c_WORDS rfl) (by rfl))))))), fn_body (fun as Φ hs => ?_) vs H Q E h⟩
    obtain ⟨z, rfl, hz⟩ := hs
    have n8 : z.length ≤ 8 := hz.elim (fun q => q.1.n8) fun q => by rw [q.1]; decide
    refine ws_ret (we_and (we_call (wa_cons (we_var rfl (wa_nil ⟨z, rfl, ?_⟩)))))
    rcases hz with ⟨gz, h⟩ | ⟨rfl, h⟩
    · refine .inl ⟨gz, true, rfl, fun _ => ?_, nofun⟩
      refine we_and (we_op (we_cb (wa_cons (we_var rfl (wa_nil (cs_lenS (by omega) (we_int (os_le_int ⟨_, rfl, fun _ => ?_, fun e => ?_⟩))))))))
      · refine we_op (we_var rfl (we_cref (os_notIn_kd T.w_WORDS ?_)))
        rw [decide_eq_false gz.nw]
        exact h
      · have := of_decide_eq_false e
        omega
    · exact .inr ⟨rfl, false, rfl, nofun, fun _ => h⟩
  case len => obtain ⟨a, rfl, _⟩ := h; rfl
def S_is_whole : List AV → (D → Prop) → Prop := fun as Φ => ∃ i : Int, as = [.dat (.int i)] ∧ Φ (.bl true)
theorem ok_is_whole (T : Txt K mg A w) : FnOk P w K mg base CX0 1 A.f_is_whole A.d_is_whole ["value"] (spA K S_is_whole) := by
  refine T.F_is_whole.ok sc_is_whole (fun vs H Q E h => spA_len h fun as Φ h => ?len) (fun cdv Ar outer s H vs Q E hr h => ?body)
  case body =>
    refine ⟨_, (pss_one (ps_ret (pe_and (pe_callB (show CallR _ _ (rIsi K) from call_isi) (by rfl) T.z_isinstance boot_isinstance (pa_cons (pv 0) (pa_cons (pe_bltn (v := .ty "int") rfl T.z_int (by decide +kernel) rfl) pa_nil))) (pe_one (pe_not (pe_callB (show CallR _ _ (rIsi K) from call_isi) (by rfl) T.z_isinstance boot_isinstance (pa_cons (pv 0) (pa_cons (pe_bltn (v := .ty "bool") rfl T.z_bool (by decide +kernel) rfl) pa_nil)))))))), fn_body (fun as Φ hs => ?_) vs H Q E h⟩
    obtain ⟨i, rfl, h⟩ := hs
    walk_at "zz"
  case len => obtain ⟨a, rfl, _⟩ := h; rfl
def S_is_number : List AV → (D → Prop) → Prop := fun as Φ => ∃ i lo hi : Int, as = [.dat (.int i), .dat (.int lo), .dat (.int hi)] ∧ lo ≤ i ∧ i ≤ hi ∧ Φ (.bl true)
theorem ok_is_number (T : Txt K mg A w) : FnOk P w K mg base CX0 2 A.f_is_number A.d_is_number ["value", "low", "high"] (spA K S_is_number) := by
  have G_is_whole := ok_is_whole (P := P) (w := w) (base := base) T
  refine T.F_is_number.ok sc_is_number (fun vs H Q E h => spA_len h fun as Φ h => ?len) (fun cdv Ar outer s H vs Q E hr h => ?body)
  case body =>
    have hr_is_whole := hr.mono (k := _) (j := _) (by decide : 1 ≤ 1)
    refine ⟨_, (pss_one (ps_ret (pe_and (pe_call G_is_whole hr_is_whole rfl T.m_is_whole T.F_is_whole.kp T.b_is_whole .nil pass0 (pa_cons (pv 0) pa_nil)) (pe_one (pe_chain (show OpR _ _ (rLeU K) from op_leU hr) (show OpR _ _ (rLeU K) from op_leU hr) (pv 1) (pv 0) (pv 2)))))), fn_body (fun as Φ hs => ?_) vs H Q E h⟩
    obtain ⟨i, lo, hi, rfl, h1, h2, h⟩ := hs
    refine ws_ret (we_and (we_call (wa_cons (we_var rfl (wa_nil ⟨i, rfl, true, rfl, fun _ => ?_, nofun⟩)))))
    walk_at "zz"
    · rw [decide_eq_true h2]; exact h
    · rw [decide_eq_true h1] at e; cases e
  case len => obtain ⟨a, b, c, rfl, _⟩ := h; rfl
def S_need_number : List AV → (D → Prop) → Prop := fun as Φ => ∃ i lo hi : Int, as = [.dat (.int i), .dat (.int lo), .dat (.int hi)] ∧ lo ≤ i ∧ i ≤ hi ∧ Φ .non
theorem ok_need_number (T : Txt K mg A w) : FnOk P w K mg base CX0 3 A.f_need_number A.d_need_number ["value", "low", "high"] (spA K S_need_number) := by
  have G_is_number := ok_is_number (P := P) (w := w) (base := base) T
  refine T.F_need_number.ok sc_need_number (fun vs H Q E h => spA_len h fun as Φ h => ?len) (fun cdv Ar outer s H vs Q E hr h => ?body)
  case body =>
    have hr_is_number := hr.mono (k := _) (j := _) (by decide : 2 ≤ 2)
    refine ⟨_, (pss_one (ps_if (pt_not (pt_val (pe_call G_is_number hr_is_number rfl T.m_is_number T.F_is_number.kp T.b_is_number .nil pass0 (pa_cons (pv 0) (pa_cons (pv 1) (pa_cons (pv 2) pa_nil)))))) (pss_one ps_never) pss_nil)), fn_body (fun as Φ hs => ?_) vs H Q E h⟩
    obtain ⟨i, lo, hi, rfl, h1, h2, h⟩ := hs
    refine ws_if (wt_not (wt_B (we_call (wa_cons (we_var rfl (wa_cons (we_var rfl (wa_cons (we_var rfl (wa_nil ⟨i, lo, hi, rfl, h1, h2, true, rfl, nofun, fun _ => ws_next h⟩))))))))))
  case len => obtain ⟨a, b, c, rfl, _⟩ := h; rfl
def S_are_bounds : List AV → (D → Prop) → Prop := fun as Φ => ∃ i j hi : Int, as = [.dat (.int i), .dat (.int j), .dat (.int hi)] ∧ 0 ≤ i ∧ i ≤ j ∧ j ≤ hi ∧ Φ (.bl true)
theorem ok_are_bounds (T : Txt K mg A w) : FnOk P w K mg base CX0 3 A.f_are_bounds A.d_are_bounds ["least", "most", "top"] (spA K S_are_bounds) := by
  have G_is_number := ok_is_number (P := P) (w := w) (base := base) T
  refine T.F_are_bounds.ok sc_are_bounds (fun vs H Q E h => spA_len h fun as Φ h => ?len) (fun cdv Ar outer s H vs Q E hr h => ?body)
  case body =>
    have hr_is_number := hr.mono (k := _) (j := _) (by decide : 2 ≤ 2)
    refine ⟨_, (pss_one (ps_ret (pe_and (pe_call G_is_number hr_is_number rfl T.m_is_number T.F_is_number.kp T.b_is_number .nil pass0 (pa_cons (pv 1) (pa_cons pe_int (pa_cons (pv 2) pa_nil)))) (pe_one (pe_call G_is_number hr_is_number rfl T.m_is_number T.F_is_number.kp T.b_is_number .nil pass0 (pa_cons (pv 0) (pa_cons pe_int (pa_cons (pv 1) pa_nil)))))))), fn_body (fun as Φ hs => ?_) vs H Q E h⟩
    obtain ⟨i, j, hi, rfl, h1, h2, h3, h⟩ := hs
    refine ws_ret (we_and (we_call (wa_cons (we_var rfl (wa_cons (we_int (wa_cons (we_var rfl (wa_nil ⟨j, 0, hi, rfl, by omega, h3, true, rfl, fun _ => ?_, nofun⟩)))))))))
    exact we_call (wa_cons (we_var rfl (wa_cons (we_int (wa_cons (we_var rfl (wa_nil ⟨i, 0, j, rfl, h1, h2, h⟩)))))))
  case len => obtain ⟨a, b, c, rfl, _⟩ := h; rfl
def S_is_place : List AV → (D → Prop) → Prop := fun as Φ => ∃ ns h z, as = [.dat (.dic (hD ns h)), .dat (.str z)] ∧ z ∈ ns ∧ Φ (.bl true)
theorem ok_is_place (T : Txt K mg A w) : FnOk P w K mg base CX0 1 A.f_is_place A.d_is_place ["held", "value"] (spA K S_is_place) := by
  refine T.F_is_place.ok sc_is_place (fun vs H Q E h => spA_len h fun as Φ h => ?len) (fun cdv Ar outer s H vs Q E hr h => ?body)
  case body =>
    refine ⟨_, (pss_one (ps_ret (pe_and (pe_callB (show CallR _ _ (rIsi K) from call_isi) (by rfl) T.z_isinstance boot_isinstance (pa_cons (pv 1) (pa_cons (pe_bltn (v := .ty "str") rfl T.z_str (by decide +kernel) rfl) pa_nil))) (pe_one (pe_cmpR (show OpR _ _ (rInU K) from op_inU hr) (pv 1) (pv 0) (by rfl)))))), fn_body (fun as Φ hs => ?_) vs H Q E h⟩
    obtain ⟨ns, f, z, rfl, hz, h⟩ := hs
    refine ws_ret (we_and ?_)
    refine we_cb ?_
    refine wa_cons ?_
    refine we_var rfl ?_
    refine wa_cons ?_
    refine we_ty ?_
    refine wa_nil ?_
    refine cs_isi (b := true) rfl (by decide +kernel) ?_
    refine ⟨_, rfl, fun _ => ?_, nofun⟩
    refine we_op ?_
    refine we_var rfl ?_
    refine we_var rfl ?_
    refine os_in_dic ?_
    rw [hD_some, decide_eq_true hz]
    exact h
  case len => obtain ⟨a, b, c, rfl, _⟩ := h; rfl
def S_is_form : List AV → (D → Prop) → Prop := fun as Φ => ∃ e : Ev, as = [.dat (evD e)] ∧ Φ (.bl true)
theorem ok_is_form (T : Txt K mg A w) : FnOk P w K mg base CX0 1 A.f_is_form A.d_is_form ["value"] (spA K S_is_form) := by
  refine T.F_is_form.ok sc_is_form (fun vs H Q E h => spA_len h fun as Φ h => ?len) (fun cdv Ar outer s H vs Q E hr h => ?body)
  case body =>
    refine ⟨_, (pss_cons (ps_if (PW.pt (pw_or (pt_not (pt_val (pe_callB (show CallR _ _ (rIsi K) from call_isi) (by rfl) T.z_isinstance boot_isinstance (pa_cons (pv 0) (pa_cons (pe_bltn (v := .ty "tuple") rfl T.z_tuple (by decide +kernel) rfl) pa_nil))))) (pw_or (pt_cmpR (show OpR _ _ (rEqU K) from op_eqU hr) (pe_callB (show CallR _ _ (rLenU K) from call_lenU) (by rfl) T.z_len PySem.boot_len (pa_cons (pv 0) pa_nil)) pe_int (nomark _)) (pw_or1 (pt_not (pt_val (pe_callB (show CallR _ _ (rIsi K) from call_isi) (by rfl) T.z_isinstance boot_isinstance (pa_cons (pe_ix (show IxR _ (rIx K) from ix_seq) (pv 0) pe_int (fun _ _ => rfl)) (pa_cons (pe_bltn (v := .ty "str") rfl T.z_str (by decide +kernel) rfl) pa_nil))))))))) (pss_one (ps_ret pe_bl)) pss_nil)
      (pss_one (ps_ret (pe_and (pe_cmpR (op_in_kd T.k_SIZES) (pe_ix (show IxR _ (rIx K) from ix_seq) (pv 0) pe_int (fun _ _ => rfl)) (pe_glob (v := .ref A.W_SIZES) rfl T.c_SIZES rfl) (by rfl)) (pe_one (pe_cmpR (show OpR _ _ (rEqU K) from op_eqU hr) (pe_callB (show CallR _ _ (rLenU K) from call_lenU) (by rfl) T.z_len PySem.boot_len (pa_cons (pv 0) pa_nil)) (pe_ix (show IxR _ (rIxD K w) from ix_kdict) (pe_glob (v := .ref A.W_SIZES) rfl T.c_SIZES rfl) (pe_ix (show IxR _ (rIx K) from ix_seq) (pv 0) pe_int (fun _ _ => rfl)) (fun _ _ => rfl)) (nomark _))))))), fn_body (fun as Φ hs => ?_) vs H Q E h⟩
    obtain ⟨e, rfl, h⟩ := hs
    cases e <;> refine ws_seq (ws_if ?_)
    all_goals walk_at "zk"
    all_goals (refine os_in_kd T.w_SIZES ?_; walk_at "zk")
    all_goals (first | refine os_ix_kd (T.i_SIZES ("pour", 6) (by decide +kernel)) ?_ | refine os_ix_kd (T.i_SIZES ("move", 5) (by decide +kernel)) ?_ | refine os_ix_kd (T.i_SIZES ("away", 4) (by decide +kernel)) ?_ | refine os_ix_kd (T.i_SIZES ("sample", 6) (by decide +kernel)) ?_ | refine os_ix_kd (T.i_SIZES ("look", 5) (by decide +kernel)) ?_ | refine os_ix_kd (T.i_SIZES ("doubt", 5) (by decide +kernel)) ?_)
    all_goals walk_at "zk"
  case len => obtain ⟨a, rfl, _⟩ := h; rfl
end
end T25

namespace T25
open PySem PySem.Spec PyProof.Rows L2 Z
theorem atI_last {α : Type} {xs : List α} {x : α} (h : xs.getLast? = some x) : L2.atI xs (-1) = some x := by
  obtain ⟨r, rfl⟩ := List.getLast?_eq_some_iff.mp h
  unfold L2.atI L2.ixN
  rw [if_neg (by omega), if_pos (by rw [List.length_append, List.length_singleton]; omega)]
  show (r ++ [x])[((-1 : Int) + ((r ++ [x]).length : Nat)).toNat]? = some x
  rw [show ((-1 : Int) + ((r ++ [x]).length : Nat)).toNat = r.length by rw [List.length_append, List.length_singleton]; omega]
  simp
theorem map_last {α : Type} {f : α → D} {xs : List α} {x : α} (h : xs.getLast? = some x) : (xs.map f).getLast? = some (f x) := by
  rw [List.getLast?_map, h]; rfl
section
variable {P : Program} {w : World} {K : PySem.W.Frag} {mg : Str → Option Value} {base : Heap} {A : Adr}
def S_is_doubt : List AV → (D → Prop) → Prop := fun as Φ => ∃ (es : List Ev) (d : Int) (i : Nat) (lo hi : Int), as = [.dat (.tup (es.map evD)), .dat (evD (.doubt d i lo hi))] ∧ (∃ d p n l u, es[i]? = some (.pour d p n l u) ∧ 0 ≤ lo ∧ lo ≤ hi ∧ hi ≤ n) ∧ Φ (.bl true)
theorem ok_is_doubt (T : Txt K mg A w) : FnOk P w K mg base CX0 4 A.f_is_doubt A.d_is_doubt ["events", "value"] (spA K S_is_doubt) := by
  have G_are_bounds := ok_are_bounds (P := P) (w := w) (base := base) T
  have G_is_number := ok_is_number (P := P) (w := w) (base := base) T
  refine T.F_is_doubt.ok sc_is_doubt (fun vs H Q E h => spA_len h fun as Φ h => ?len) (fun cdv Ar outer s H vs Q E hr h => ?body)
  case body =>
    have hr_are_bounds := hr.mono (k := _) (j := _) (by decide : 3 ≤ 3)
    have hr_is_number := hr.mono (k := _) (j := _) (by decide : 2 ≤ 3)
    refine ⟨_, (pss_cons (ps_if (PW.pt (pw_or (pt_not (pt_val (pe_call G_is_number hr_is_number rfl T.m_is_number T.F_is_number.kp T.b_is_number .nil pass0 (pa_cons (pe_ix (show IxR _ (rIx K) from ix_seq) (pv 1) pe_int (fun _ _ => rfl)) (pa_cons pe_int (pa_cons (pe_op op_sub (pe_callB (show CallR _ _ (rLenU K) from call_lenU) (by rfl) T.z_len PySem.boot_len (pa_cons (pv 0) pa_nil)) pe_int) pa_nil)))))) (pw_or1 (pt_cmpR (show OpR _ _ (rNeU K) from op_neU hr) (pe_ix (show IxR _ (rIx K) from ix_seq) (pe_ix (show IxR _ (rIx K) from ix_seq) (pv 0) (pe_ix (show IxR _ (rIx K) from ix_seq) (pv 1) pe_int (fun _ _ => rfl)) (fun _ _ => rfl)) pe_int (fun _ _ => rfl)) pe_str (nomark _))))) (pss_one (ps_ret pe_bl)) pss_nil)
      (pss_one (ps_ret (pe_call G_are_bounds hr_are_bounds rfl T.m_are_bounds T.F_are_bounds.kp T.b_are_bounds .nil pass0 (pa_cons (pe_ix (show IxR _ (rIx K) from ix_seq) (pv 1) pe_int (fun _ _ => rfl)) (pa_cons (pe_ix (show IxR _ (rIx K) from ix_seq) (pv 1) pe_int (fun _ _ => rfl)) (pa_cons (pe_ix (show IxR _ (rIx K) from ix_seq) (pe_ix (show IxR _ (rIx K) from ix_seq) (pv 0) (pe_ix (show IxR _ (rIx K) from ix_seq) (pv 1) pe_int (fun _ _ => rfl)) (fun _ _ => rfl)) pe_int (fun _ _ => rfl)) pa_nil))))))), fn_body (fun as Φ hs => ?_) vs H Q E h⟩
    obtain ⟨es, d, i, lo, hi, rfl, ⟨d', p, n, l, u, he, h1, h2, h3⟩, h⟩ := hs
    have hl := (List.getElem?_eq_some_iff.mp he).1
    have le : L2.atI (es.map evD) (i : Int) = some (evD (.pour d' p n l u)) := Z.atI_nat (by rw [List.getElem?_map, he]; rfl)
    refine ws_seq (ws_if ?_)
    walk_at "zk"
    rw [List.length_map]
    refine ⟨i, 0, _, rfl, by omega, by omega, true, rfl, nofun, fun _ => ?_⟩
    walk_at "zk"
    refine os_ix_tup le ?_
    walk_at "zk"
    refine os_ix_tup le ?_
    walk_at "zk"
    exact ⟨lo, hi, n, rfl, h1, h2, h3, h⟩
  case len => obtain ⟨a, b, c, d, e, rfl, _⟩ := h; rfl
def S_is_move : List AV → (D → Prop) → Prop := fun as Φ => ∃ (ns : List Str) (f : Str → Int) (d : Int) (p q : Str) (n : Int), as = [.dat (.dic (hD ns f)), .dat (evD (.move d p q n))] ∧ (p ∈ ns ∧ q ∈ ns ∧ q ≠ p ∧ 1 ≤ n ∧ n ≤ f p) ∧ Φ (.bl true)
theorem ok_is_move (T : Txt K mg A w) : FnOk P w K mg base CX0 3 A.f_is_move A.d_is_move ["held", "value"] (spA K S_is_move) := by
  have G_is_number := ok_is_number (P := P) (w := w) (base := base) T
  have G_is_place := ok_is_place (P := P) (w := w) (base := base) T
  refine T.F_is_move.ok sc_is_move (fun vs H Q E h => spA_len h fun as Φ h => ?len) (fun cdv Ar outer s H vs Q E hr h => ?body)
  case body =>
    have hr_is_number := hr.mono (k := _) (j := _) (by decide : 2 ≤ 2)
    have hr_is_place := hr.mono (k := _) (j := _) (by decide : 1 ≤ 2)
    refine ⟨_, (pss_cons (ps_if (PW.pt (pw_or (pt_not (pt_val (pe_call G_is_place hr_is_place rfl T.m_is_place T.F_is_place.kp T.b_is_place .nil pass0 (pa_cons (pv 0) (pa_cons (pe_ix (show IxR _ (rIx K) from ix_seq) (pv 1) pe_int (fun _ _ => rfl)) pa_nil))))) (pw_or1 (pt_cmpR (show OpR _ _ (rEqU K) from op_eqU hr) (pe_ix (show IxR _ (rIx K) from ix_seq) (pv 1) pe_int (fun _ _ => rfl)) (pe_ix (show IxR _ (rIx K) from ix_seq) (pv 1) pe_int (fun _ _ => rfl)) (nomark _))))) (pss_one (ps_ret pe_bl)) pss_nil)
      (pss_one (ps_ret (pe_call G_is_number hr_is_number rfl T.m_is_number T.F_is_number.kp T.b_is_number .nil pass0 (pa_cons (pe_ix (show IxR _ (rIx K) from ix_seq) (pv 1) pe_int (fun _ _ => rfl)) (pa_cons pe_int (pa_cons (pe_dget (hu_of hr) (pv 0) (pe_ix (show IxR _ (rIx K) from ix_seq) (pv 1) pe_int (fun _ _ => rfl)) (fun _ _ => rfl)) pa_nil))))))), fn_body (fun as Φ hs => ?_) vs H Q E h⟩
    obtain ⟨ns, f, d, p, q, n, rfl, ⟨h1, h2, h3, h4, h5⟩, h⟩ := hs
    refine ws_seq (ws_if ?_)
    walk_at "zk"
    refine ⟨ns, f, q, rfl, h2, true, rfl, nofun, fun _ => ?_⟩
    walk_at "zk"
    · exact absurd (of_decide_eq_true e) h3
    · refine we_dget (we_var rfl ⟨_, rfl, ?_⟩)
      walk_at "zk"
      refine ⟨Sum.inr p, _, rfl, hD_val h1, ?_⟩
      walk_at "zk"
      exact ⟨n, 1, f p, rfl, h4, h5, h⟩
  case len => obtain ⟨a, b, c, d, e, f, rfl, _⟩ := h; rfl
def S_is_event : List AV → (D → Prop) → Prop := fun as Φ => ∃ (ns : List Str) (f : Str → Int) (es : List Ev) (e : Ev), as = [.dat (.dic (hD ns f)), .dat (.tup (es.map evD)), .dat (evD e)] ∧ OkE ns es f e ∧ Φ (.bl true)
theorem ok_is_event (T : Txt K mg A w) : FnOk P w K mg base CX0 5 A.f_is_event A.d_is_event ["held", "events", "value"] (spA K S_is_event) := by
  have G_are_bounds := ok_are_bounds (P := P) (w := w) (base := base) T
  have G_is_doubt := ok_is_doubt (P := P) (w := w) (base := base) T
  have G_is_form := ok_is_form (P := P) (w := w) (base := base) T
  have G_is_move := ok_is_move (P := P) (w := w) (base := base) T
  have G_is_number := ok_is_number (P := P) (w := w) (base := base) T
  have G_is_place := ok_is_place (P := P) (w := w) (base := base) T
  refine T.F_is_event.ok sc_is_event (fun vs H Q E h => spA_len h fun as Φ h => ?len) (fun cdv Ar outer s H vs Q E hr h => ?body)
  case body =>
    have hr_are_bounds := hr.mono (k := _) (j := _) (by decide : 3 ≤ 4)
    have hr_is_doubt := hr.mono (k := _) (j := _) (by decide : 4 ≤ 4)
    have hr_is_form := hr.mono (k := _) (j := _) (by decide : 1 ≤ 4)
    have hr_is_move := hr.mono (k := _) (j := _) (by decide : 3 ≤ 4)
    have hr_is_number := hr.mono (k := _) (j := _) (by decide : 2 ≤ 4)
    have hr_is_place := hr.mono (k := _) (j := _) (by decide : 1 ≤ 4)
    refine ⟨_, (pss_cons (ps_if (pt_not (pt_val (pe_call G_is_form hr_is_form rfl T.m_is_form T.F_is_form.kp T.b_is_form .nil pass0 (pa_cons (pv 2) pa_nil)))) (pss_one (ps_ret pe_bl)) pss_nil)
      (pss_cons (ps_set (i := 3) sc_is_event.nd rfl (by first | exact Or.inl rfl | exact Or.inr rfl) (pe_ifExp (pt_cmpR op_gt (pe_callB (show CallR _ _ (rLenU K) from call_lenU) (by rfl) T.z_len PySem.boot_len (pa_cons (pv 1) pa_nil)) pe_int (nomark _)) (pe_ix (show IxR _ (rIx K) from ix_seq) (pe_ix (show IxR _ (rIx K) from ix_seq) (pv 1) (pe_un un_neg pe_int) (fun _ _ => rfl)) pe_int (fun _ _ => rfl)) pe_int))
      (pss_cons (ps_if (pt_not (pt_val (pe_call G_is_number hr_is_number rfl T.m_is_number T.F_is_number.kp T.b_is_number .nil pass0 (pa_cons (pe_ix (show IxR _ (rIx K) from ix_seq) (pv 2) pe_int (fun _ _ => rfl)) (pa_cons (pv 3) (pa_cons (pe_glob rfl T.c_MOST_DAY T.r_MOST_DAY) pa_nil)))))) (pss_one (ps_ret pe_bl)) pss_nil)
      (pss_cons (ps_set (i := 4) sc_is_event.nd rfl (by first | exact Or.inl rfl | exact Or.inr rfl) (pe_ix (show IxR _ (rIx K) from ix_seq) (pv 2) pe_int (fun _ _ => rfl)))
      (pss_cons (ps_if (pt_cmpR (show OpR _ _ (rEqU K) from op_eqU hr) (pv 4) pe_str (nomark _)) (pss_one (ps_ret (pe_call G_is_doubt hr_is_doubt rfl T.m_is_doubt T.F_is_doubt.kp T.b_is_doubt .nil pass0 (pa_cons (pv 1) (pa_cons (pv 2) pa_nil))))) pss_nil)
      (pss_cons (ps_if (pt_not (pt_val (pe_call G_is_place hr_is_place rfl T.m_is_place T.F_is_place.kp T.b_is_place .nil pass0 (pa_cons (pv 0) (pa_cons (pe_ix (show IxR _ (rIx K) from ix_seq) (pv 2) pe_int (fun _ _ => rfl)) pa_nil))))) (pss_one (ps_ret pe_bl)) pss_nil)
      (pss_cons (ps_if (pt_cmpR (show OpR _ _ (rEqU K) from op_eqU hr) (pv 4) pe_str (nomark _)) (pss_one (ps_ret (pe_and (pe_call G_is_number hr_is_number rfl T.m_is_number T.F_is_number.kp T.b_is_number .nil pass0 (pa_cons (pe_ix (show IxR _ (rIx K) from ix_seq) (pv 2) pe_int (fun _ _ => rfl)) (pa_cons pe_int (pa_cons (pe_glob rfl T.c_MOST_COUNT T.r_MOST_COUNT) pa_nil)))) (pe_one (pe_call G_are_bounds hr_are_bounds rfl T.m_are_bounds T.F_are_bounds.kp T.b_are_bounds .nil pass0 (pa_cons (pe_ix (show IxR _ (rIx K) from ix_seq) (pv 2) pe_int (fun _ _ => rfl)) (pa_cons (pe_ix (show IxR _ (rIx K) from ix_seq) (pv 2) pe_int (fun _ _ => rfl)) (pa_cons (pe_ix (show IxR _ (rIx K) from ix_seq) (pv 2) pe_int (fun _ _ => rfl)) pa_nil)))))))) pss_nil)
      (pss_cons (ps_if (pt_cmpR (show OpR _ _ (rEqU K) from op_eqU hr) (pv 4) pe_str (nomark _)) (pss_one (ps_ret (pe_call G_is_move hr_is_move rfl T.m_is_move T.F_is_move.kp T.b_is_move .nil pass0 (pa_cons (pv 0) (pa_cons (pv 2) pa_nil))))) pss_nil)
      (pss_cons (ps_if (pt_cmpR (show OpR _ _ (rEqU K) from op_eqU hr) (pv 4) pe_str (nomark _)) (pss_one (ps_ret (pe_call G_are_bounds hr_are_bounds rfl T.m_are_bounds T.F_are_bounds.kp T.b_are_bounds .nil pass0 (pa_cons (pe_ix (show IxR _ (rIx K) from ix_seq) (pv 2) pe_int (fun _ _ => rfl)) (pa_cons (pe_ix (show IxR _ (rIx K) from ix_seq) (pv 2) pe_int (fun _ _ => rfl)) (pa_cons (pe_dget (hu_of hr) (pv 0) (pe_ix (show IxR _ (rIx K) from ix_seq) (pv 2) pe_int (fun _ _ => rfl)) (fun _ _ => rfl)) pa_nil)))))) pss_nil)
      (pss_cons (ps_if (pt_not (pt_val (pe_call G_is_number hr_is_number rfl T.m_is_number T.F_is_number.kp T.b_is_number .nil pass0 (pa_cons (pe_ix (show IxR _ (rIx K) from ix_seq) (pv 2) pe_int (fun _ _ => rfl)) (pa_cons pe_int (pa_cons (pe_dget (hu_of hr) (pv 0) (pe_ix (show IxR _ (rIx K) from ix_seq) (pv 2) pe_int (fun _ _ => rfl)) (fun _ _ => rfl)) pa_nil)))))) (pss_one (ps_ret pe_bl)) pss_nil)
      (pss_one (ps_ret (pe_or (pe_cmpR (show OpR _ _ (rEqU K) from op_eqU hr) (pv 4) pe_str (nomark _)) (pe_one (pe_call G_are_bounds hr_are_bounds rfl T.m_are_bounds T.F_are_bounds.kp T.b_are_bounds .nil pass0 (pa_cons (pe_ix (show IxR _ (rIx K) from ix_seq) (pv 2) pe_int (fun _ _ => rfl)) (pa_cons (pe_ix (show IxR _ (rIx K) from ix_seq) (pv 2) pe_int (fun _ _ => rfl)) (pa_cons (pe_ix (show IxR _ (rIx K) from ix_seq) (pv 2) pe_int (fun _ _ => rfl)) pa_nil)))))))))))))))))), fn_body (fun as Φ hs => ?_) vs H Q E h⟩
    obtain ⟨ns, f, es, e, rfl, ⟨o1, o2, o3, o4⟩, h⟩ := hs
    refine ws_seq (ws_if (wt_not (wt_B ?_)))
    refine we_call ?_
    refine wa_cons ?_
    refine we_var rfl ?_
    refine wa_nil ?_
    refine ⟨e, rfl, true, rfl, nofun, fun _ => ?_⟩
    refine ws_next (ws_seq (ws_asg (WE.imp (Φ := fun d => d = .int (lastDay es)) ?_ fun d hd => ?_)))
    · refine we_if (wt_test ?_)
      walk_at "zk"
      · rw [List.length_map] at e
        cases hg : es.getLast? with
        | none => rw [List.getLast?_eq_none_iff.mp hg] at e; exact absurd e (by decide)
        | some x =>
          refine os_ix_tup (atI_last (map_last hg)) ?_
          walk_at "zk"
          refine os_ix_tup (ev_day x) ?_
          rw [lastDay, hg]
      · rw [List.length_map] at e
        have : es.length = 0 := by have := of_decide_eq_false e; omega
        rw [List.length_eq_zero_iff.mp this]; rfl
    · subst hd
      refine ws_seq (ws_if ?_)
      walk_at "zk"
      refine os_ix_tup (ev_day e) ?_
      walk_at "zk"
      refine ⟨e.day, lastDay es, 999, rfl, o1, o3, true, rfl, nofun, fun _ => ?_⟩
      cases e with
      | pour d p n lo hi =>
        obtain ⟨q1, q2, q3, q4, q5, q6⟩ := o4
        walk_at "zk"
        refine ⟨ns, f, p, rfl, q1, true, rfl, nofun, fun _ => ?_⟩
        walk_at "zk"
        refine ⟨n, 1, 999, rfl, q2, q3, true, rfl, fun _ => ?_, nofun⟩
        walk_at "zk"
        exact ⟨lo, hi, n, rfl, q4, q5, q6, h⟩
      | move d p q n =>
        walk_at "zk"
        refine ⟨ns, f, p, rfl, o4.1, true, rfl, nofun, fun _ => ?_⟩
        walk_at "zk"
        exact ⟨ns, f, d, p, q, n, rfl, o4, h⟩
      | away d p n =>
        walk_at "zk"
        refine ⟨ns, f, p, rfl, o4.1, true, rfl, nofun, fun _ => ?_⟩
        walk_at "zk"
        refine we_dget (we_var rfl ⟨_, rfl, ?_⟩)
        walk_at "zk"
        refine ⟨Sum.inr p, _, rfl, hD_val o4.1, ?_⟩
        walk_at "zk"
        refine ⟨n, 1, f p, rfl, o4.2.1, o4.2.2, true, rfl, nofun, fun _ => ?_⟩
        walk_at "zk"
      | sample d p n lo hi =>
        obtain ⟨q1, q2, q3, q4, q5, q6⟩ := o4
        walk_at "zk"
        refine ⟨ns, f, p, rfl, q1, true, rfl, nofun, fun _ => ?_⟩
        walk_at "zk"
        refine we_dget (we_var rfl ⟨_, rfl, ?_⟩)
        walk_at "zk"
        refine ⟨Sum.inr p, _, rfl, hD_val q1, ?_⟩
        walk_at "zk"
        refine ⟨n, 1, f p, rfl, q2, q3, true, rfl, nofun, fun _ => ?_⟩
        walk_at "zk"
        exact ⟨lo, hi, n, rfl, q4, q5, q6, h⟩
      | look d p lo hi =>
        obtain ⟨q1, q2, q3, q4⟩ := o4
        walk_at "zk"
        refine ⟨ns, f, p, rfl, q1, true, rfl, nofun, fun _ => ?_⟩
        walk_at "zk"
        refine we_dget (we_var rfl ⟨_, rfl, ?_⟩)
        walk_at "zk"
        refine ⟨Sum.inr p, _, rfl, hD_val q1, ?_⟩
        walk_at "zk"
        exact ⟨lo, hi, f p, rfl, q2, q3, q4, h⟩
      | doubt d i lo hi =>
        walk_at "zk"
        exact ⟨es, d, i, lo, hi, rfl, o4, h⟩
  case len => obtain ⟨a, b, c, d, rfl, _⟩ := h; rfl
theorem tk_snoc {α : Type} {xs : List α} {i : Nat} {x : α} (h : xs[i]? = some x) : xs.take (i + 1) = xs.take i ++ [x] := by rw [List.take_add_one, h]; rfl
theorem nd_at {ns : List Str} (nd : ns.Nodup) {i : Nat} {z : Str} (h : ns[i]? = some z) : z ∉ ns.take i := fun m => by
  obtain ⟨j, hj⟩ := List.getElem?_of_mem m
  have hji : j < i := by
    have := (List.getElem?_eq_some_iff.mp hj).1
    rw [List.length_take] at this
    omega
  rw [List.getElem?_take_of_lt hji] at hj
  obtain ⟨h1, e1⟩ := List.getElem?_eq_some_iff.mp hj
  obtain ⟨h2, e2⟩ := List.getElem?_eq_some_iff.mp h
  exact List.pairwise_iff_getElem.mp nd j i h1 h2 hji (e1.trans e2.symm)
def S_held_behind : List AV → (D → Prop) → Prop := fun as Φ => ∃ (ns : List Str) (f : Str → Int) (e : Ev), as = [.dat (.dic (hD ns f)), .dat (evD e)] ∧ ns.Nodup ∧ ns.length ≤ 12 ∧ e.In ns ∧ Φ (.dic (hD ns (step f e)))
theorem ok_held_behind (T : Txt K mg A w) : FnOk P w K mg base CX0 1 A.f_held_behind A.d_held_behind ["held", "event"] (spA K S_held_behind) := by
  refine T.F_held_behind.ok sc_held_behind (fun vs H Q E h => spA_len h fun as Φ h => ?len) (fun cdv Ar outer s H vs Q E hr h => ?body)
  case body =>
    refine ⟨_, (pss_cons (ps_forD (ps_lock (ps_setDc (i := 2) (own := [("place", 3)]) rfl sc_held_behind.nd rfl rfl (sw_dc rfl rfl rfl (by decide +kernel)) (pi_keys (pv 0)) (blkOk_by (N := ["held", "event", "later", "place"]) (sc := defScope s_held_behind) (by decide +kernel)) (fun _ _ _ _ _ => (pg_name (i := 3) sc_held_behind.nd rfl (by first | exact Or.inl rfl | exact Or.inr rfl))) (fun _ _ _ _ _ => pts_nil) (fun _ _ _ _ _ => (pv 3)) (fun _ _ _ _ _ => (pe_dget (hu_of hr) (pv 0) (pv 3) (fun _ _ => rfl))))) (ps_setDc (i := 2) (own := [("place", 3)]) rfl sc_held_behind.nd rfl rfl (sw_dc rfl rfl rfl (by decide +kernel)) (pi_keys (pv 0)) (blkOk_by (N := ["held", "event", "later", "place"]) (sc := defScope s_held_behind) (by decide +kernel)) (fun _ _ _ _ _ => (pg_name (i := 3) sc_held_behind.nd rfl (by first | exact Or.inl rfl | exact Or.inr rfl))) (fun _ _ _ _ _ => pts_nil) (fun _ _ _ _ _ => (pv 3)) (fun _ _ _ _ _ => (pe_dget (hu_of hr) (pv 0) (pv 3) (fun _ _ => rfl)))))
      (pss_cons (ps_if (pt_cmpR (show OpR _ _ (rEqU K) from op_eqU hr) (pe_ix (show IxR _ (rIx K) from ix_seq) (pv 1) pe_int (fun _ _ => rfl)) pe_str (nomark _)) (pss_one (ps_dput (hu_of hr) (pv 2) (pe_ix (show IxR _ (rIx K) from ix_seq) (pv 1) pe_int (fun _ _ => rfl)) (pe_op (show OpR _ _ (rAddU K) from op_addU) (pe_dget (hu_of hr) (pv 2) (pe_ix (show IxR _ (rIx K) from ix_seq) (pv 1) pe_int (fun _ _ => rfl)) (fun _ _ => rfl)) (pe_ix (show IxR _ (rIx K) from ix_seq) (pv 1) pe_int (fun _ _ => rfl))) rfl)) (pss_one (ps_if (pt_cmpR (show OpR _ _ (rEqU K) from op_eqU hr) (pe_ix (show IxR _ (rIx K) from ix_seq) (pv 1) pe_int (fun _ _ => rfl)) pe_str (nomark _)) (pss_cons (ps_dput (hu_of hr) (pv 2) (pe_ix (show IxR _ (rIx K) from ix_seq) (pv 1) pe_int (fun _ _ => rfl)) (pe_op op_sub (pe_dget (hu_of hr) (pv 2) (pe_ix (show IxR _ (rIx K) from ix_seq) (pv 1) pe_int (fun _ _ => rfl)) (fun _ _ => rfl)) (pe_ix (show IxR _ (rIx K) from ix_seq) (pv 1) pe_int (fun _ _ => rfl))) rfl)
      (pss_one (ps_dput (hu_of hr) (pv 2) (pe_ix (show IxR _ (rIx K) from ix_seq) (pv 1) pe_int (fun _ _ => rfl)) (pe_op (show OpR _ _ (rAddU K) from op_addU) (pe_dget (hu_of hr) (pv 2) (pe_ix (show IxR _ (rIx K) from ix_seq) (pv 1) pe_int (fun _ _ => rfl)) (fun _ _ => rfl)) (pe_ix (show IxR _ (rIx K) from ix_seq) (pv 1) pe_int (fun _ _ => rfl))) rfl))) (pss_one (ps_if (pt_cmpR (show OpR _ _ (rInU K) from op_inU hr) (pe_ix (show IxR _ (rIx K) from ix_seq) (pv 1) pe_int (fun _ _ => rfl)) (pe_tup (pa_cons pe_str (pa_cons pe_str pa_nil))) (by rfl)) (pss_one (ps_dput (hu_of hr) (pv 2) (pe_ix (show IxR _ (rIx K) from ix_seq) (pv 1) pe_int (fun _ _ => rfl)) (pe_op op_sub (pe_dget (hu_of hr) (pv 2) (pe_ix (show IxR _ (rIx K) from ix_seq) (pv 1) pe_int (fun _ _ => rfl)) (fun _ _ => rfl)) (pe_ix (show IxR _ (rIx K) from ix_seq) (pv 1) pe_int (fun _ _ => rfl))) rfl)) pss_nil)))))
      (pss_one (ps_ret (pv 2))))), fn_body (fun as Φ hs => ?_) vs H Q E h⟩
    obtain ⟨ns, f, e, rfl, nd, hl, hi, h⟩ := hs
    refine ws_seq (ws_dcKeys (i := 0) rfl (by rw [hD_len]; omega) (wr_name 3) (mono_name 3) (by simp) ⟨fun n acc => acc = hD (ns.take n) f, rfl, fun n k d acc hn hJ => ?_, fun acc hJ => ?_⟩)
    · subst hJ
      unfold hD at hn
      rw [List.getElem?_map] at hn
      obtain ⟨z, hz, e⟩ := Option.map_eq_some_iff.mp hn
      obtain ⟨rfl, rfl⟩ := Prod.mk.inj e
      refine wg_name (wt_true ⟨fun _ => we_var rfl (we_dget (we_var rfl ⟨_, rfl, we_var rfl ⟨Sum.inr z, _, rfl, hD_val (List.mem_of_getElem? hz), Sum.inr z, rfl, ?_⟩⟩)), nofun⟩)
      show _ = hD (ns.take (n + 1)) f
      rw [hD_new (nd_at nd hz), tk_snoc hz]
    · subst hJ
      rw [hD_len, List.take_length]
      cases e with
      | pour d p n lo hi' =>
        walk_at "zk"
        refine ws_dput rfl (by rw [hD_len]; omega) (we_up (we_op (we_dget (we_varD rfl ⟨_, rfl, ?_⟩))))
        walk_at "zk"
        refine ⟨Sum.inr p, _, rfl, hD_val hi, ?_⟩
        walk_at "zk"
        refine ⟨trivial, ?_⟩
        walk_at "zk"
        refine ⟨Sum.inr p, rfl, ?_⟩
        rw [hD_put hi]
        exact ws_ret (we_varD rfl h)
      | move d p q n =>
        obtain ⟨hp, hq⟩ := hi
        walk_at "zk"
        refine ws_dput rfl (by rw [hD_len]; omega) (we_up (we_op (we_dget (we_varD rfl ⟨_, rfl, ?_⟩))))
        walk_at "zk"
        refine ⟨Sum.inr p, _, rfl, hD_val hp, ?_⟩
        walk_at "zk"
        refine ⟨trivial, ?_⟩
        walk_at "zk"
        refine ⟨Sum.inr p, rfl, ?_⟩
        rw [Int.sub_eq_add_neg, hD_put hp]
        refine ws_dput rfl (by rw [hD_len]; omega) (we_up (we_op (we_dget (we_varD rfl ⟨_, rfl, ?_⟩))))
        walk_at "zk"
        refine ⟨Sum.inr q, _, rfl, hD_val hq, ?_⟩
        walk_at "zk"
        refine ⟨trivial, ?_⟩
        walk_at "zk"
        refine ⟨Sum.inr q, rfl, ?_⟩
        rw [hD_put hq]
        exact ws_ret (we_varD rfl h)
      | away d p n =>
        walk_at "zk"
        refine os_in_tupS (ns := ["away", "sample"]) ?_
        walk_at "zk"
        refine ws_dput rfl (by rw [hD_len]; omega) (we_up (we_op (we_dget (we_varD rfl ⟨_, rfl, ?_⟩))))
        walk_at "zk"
        refine ⟨Sum.inr p, _, rfl, hD_val hi, ?_⟩
        walk_at "zk"
        refine ⟨trivial, ?_⟩
        walk_at "zk"
        refine ⟨Sum.inr p, rfl, ?_⟩
        rw [Int.sub_eq_add_neg, hD_put hi]
        exact ws_ret (we_varD rfl h)
      | sample d p n lo hi' =>
        walk_at "zk"
        refine os_in_tupS (ns := ["away", "sample"]) ?_
        walk_at "zk"
        refine ws_dput rfl (by rw [hD_len]; omega) (we_up (we_op (we_dget (we_varD rfl ⟨_, rfl, ?_⟩))))
        walk_at "zk"
        refine ⟨Sum.inr p, _, rfl, hD_val hi, ?_⟩
        walk_at "zk"
        refine ⟨trivial, ?_⟩
        walk_at "zk"
        refine ⟨Sum.inr p, rfl, ?_⟩
        rw [Int.sub_eq_add_neg, hD_put hi]
        exact ws_ret (we_varD rfl h)
      | look d p lo hi' =>
        walk_at "zk"
        refine os_in_tupS (ns := ["away", "sample"]) ?_
        walk_at "zk"
        exact we_varD rfl h
      | doubt d k lo hi' =>
        walk_at "zk"
        refine os_in_tupS (ns := ["away", "sample"]) ?_
        walk_at "zk"
        exact we_varD rfl h
  case len => obtain ⟨a, b, c, rfl, _⟩ := h; rfl
/-! ### places -/
def lbD (ls : List Str) : List (Key × D) := ls.map fun z => ((Sum.inr z : Key), D.bl true)
theorem lb_put (ls : List Str) (z : Str) : putD (lbD ls) (Sum.inr z) (.bl true) = lbD (if z ∈ ls then ls else ls ++ [z]) := by
  by_cases m : z ∈ ls
  · rw [if_pos m]
    unfold putD
    rw [show ((lbD ls).any fun kv => decide (kv.1 = Sum.inr z)) = true by
      rw [lbD, any_map (fun z => z) (fun _ => D.bl true), List.map_id'']; simpa using m
      intro; rfl, if_pos rfl]
    unfold lbD
    rw [List.map_map]
    refine List.map_congr_left fun y _ => ?_
    show (if _ then _ else _) = _
    split <;> rfl
  · rw [if_neg m]
    exact put_new (fun z => z) (fun _ => D.bl true) (by rw [List.map_id'']; exact m; intro; rfl)
theorem nd_len {α : Type} [DecidableEq α] {ls ts : List α} (nd : ls.Nodup) (h : ∀ z ∈ ls, z ∈ ts) : ls.length ≤ ts.length := by
  obtain ⟨r, p⟩ := ZW.perm_ext nd h
  have := p.length_eq
  rw [List.length_append] at this
  omega
def S_is_pair : List AV → (D → Prop) → Prop := fun as Φ => ∃ q : Str × Str, as = [.dat (pD q)] ∧ GoodName q.1 ∧ (q.2 = "" ∨ GoodName q.2) ∧ Φ (.bl true)
theorem ok_is_pair (T : Txt K mg A w) : FnOk P w K mg base CX0 3 A.f_is_pair A.d_is_pair ["value"] (spA K S_is_pair) := by
  have G_is_name := ok_is_name (P := P) (w := w) (base := base) T
  refine T.F_is_pair.ok sc_is_pair (fun vs H Q E h => spA_len h fun as Φ h => ?len) (fun cdv Ar outer s H vs Q E hr h => ?body)
  case body =>
    have hr_is_name := hr.mono (k := _) (j := _) (by decide : 2 ≤ 2)
    refine ⟨_, (pss_cons (ps_if (PW.pt (pw_or (pt_not (pt_val (pe_callB (show CallR _ _ (rIsi K) from call_isi) (by rfl) T.z_isinstance boot_isinstance (pa_cons (pv 0) (pa_cons (pe_bltn (v := .ty "tuple") rfl T.z_tuple (by decide +kernel) rfl) pa_nil))))) (pw_or (pt_cmpR (show OpR _ _ (rNeU K) from op_neU hr) (pe_callB (show CallR _ _ (rLenU K) from call_lenU) (by rfl) T.z_len PySem.boot_len (pa_cons (pv 0) pa_nil)) pe_int (nomark _)) (pw_or1 (pt_not (pt_val (pe_call G_is_name hr_is_name rfl T.m_is_name T.F_is_name.kp T.b_is_name .nil pass0 (pa_cons (pe_ix (show IxR _ (rIx K) from ix_seq) (pv 0) pe_int (fun _ _ => rfl)) pa_nil)))))))) (pss_one (ps_ret pe_bl)) pss_nil)
      (pss_one (ps_ret (pe_or (pe_call G_is_name hr_is_name rfl T.m_is_name T.F_is_name.kp T.b_is_name .nil pass0 (pa_cons (pe_ix (show IxR _ (rIx K) from ix_seq) (pv 0) pe_int (fun _ _ => rfl)) pa_nil)) (pe_one (pe_and (pe_callB (show CallR _ _ (rIsi K) from call_isi) (by rfl) T.z_isinstance boot_isinstance (pa_cons (pe_ix (show IxR _ (rIx K) from ix_seq) (pv 0) pe_int (fun _ _ => rfl)) (pa_cons (pe_bltn (v := .ty "str") rfl T.z_str (by decide +kernel) rfl) pa_nil))) (pe_one (pe_cmpR (show OpR _ _ (rEqU K) from op_eqU hr) (pe_ix (show IxR _ (rIx K) from ix_seq) (pv 0) pe_int (fun _ _ => rfl)) pe_str (nomark _))))))))), fn_body (fun as Φ hs => ?_) vs H Q E h⟩
    obtain ⟨⟨a, c⟩, rfl, h1, h2, h⟩ := hs
    unfold pD
    refine ws_seq (ws_if ?_)
    walk_at "zk"
    refine .inl ⟨h1, true, rfl, nofun, fun _ => ?_⟩
    walk_at "zk"
    rcases h2 with e | g
    · have e : c = "" := e
      subst e
      refine .inr ⟨rfl, false, rfl, nofun, fun _ => ?_⟩
      walk_at "zk"
    · refine .inl ⟨g, true, rfl, fun _ => h, nofun⟩
  case len => obtain ⟨a, rfl, _⟩ := h; rfl
def S_check_places : List AV → (D → Prop) → Prop := fun as Φ => ∃ p : Pl, as = [.dat (.tup (p.map pD))] ∧ OkP p ∧ Φ .non
theorem ok_check_places (T : Txt K mg A w) : FnOk P w K mg base CX0 4 A.f_check_places A.d_check_places ["places"] (spA K S_check_places) := by
  have G_is_pair := ok_is_pair (P := P) (w := w) (base := base) T
  refine T.F_check_places.ok sc_check_places (fun vs H Q E h => spA_len h fun as Φ h => ?len) (fun cdv Ar outer s H vs Q E hr h => ?body)
  case body =>
    have hr_is_pair := hr.mono (k := _) (j := _) (by decide : 3 ≤ 3)
    refine ⟨_, (pss_cons (ps_if (PW.pt (pw_or (pt_not (pt_val (pe_callB (show CallR _ _ (rIsi K) from call_isi) (by rfl) T.z_isinstance boot_isinstance (pa_cons (pv 0) (pa_cons (pe_bltn (v := .ty "tuple") rfl T.z_tuple (by decide +kernel) rfl) pa_nil))))) (pw_or1 (pt_cmpR (show OpR _ _ (rEqU K) from op_eqU hr) (pe_callB (show CallR _ _ (rLenU K) from call_lenU) (by rfl) T.z_len PySem.boot_len (pa_cons (pv 0) pa_nil)) pe_int (nomark _))))) (pss_one ps_never) pss_nil)
      (pss_cons (ps_set (i := 1) sc_check_places.nd rfl (by first | exact Or.inl rfl | exact Or.inr rfl) pe_dnewK)
      (pss_one (ps_for PassesOwn.never rfl (pi_enumT (by rfl) T.z_enumerate (pa_cons (pv 0) pa_nil)) (show PG _ _ (gTup K _ _) from pg_tup (n := 2) rfl (pgs_cons (pg_name (i := 2) sc_check_places.nd rfl (by first | exact Or.inl rfl | exact Or.inr rfl)) (pgs_cons (pg_name (i := 3) sc_check_places.nd rfl (by first | exact Or.inl rfl | exact Or.inr rfl)) pgs_nil))) (pss_cons (ps_if (PW.pt (pw_or (pt_cmpR (show OpR _ _ (rEqU K) from op_eqU hr) (pv 2) (pe_glob rfl T.c_MOST_PLACES T.r_MOST_PLACES) (nomark _)) (pw_or (pt_not (pt_val (pe_call G_is_pair hr_is_pair rfl T.m_is_pair T.F_is_pair.kp T.b_is_pair .nil pass0 (pa_cons (pv 3) pa_nil)))) (pw_or1 (PW.pt (pw_and (pt_cmpR op_gt (pv 2) pe_int (nomark _)) (pw_and1 (pt_cmpR (show OpR _ _ (rLeU K) from op_leU hr) (pe_ix (show IxR _ (rIx K) from ix_seq) (pv 3) pe_int (fun _ _ => rfl)) (pe_ix (show IxR _ (rIx K) from ix_seq) (pe_ix (show IxR _ (rIx K) from ix_seq) (pv 0) (pe_op op_sub (pv 2) pe_int) (fun _ _ => rfl)) pe_int (fun _ _ => rfl)) (nomark _))))))))) (pss_one ps_never) pss_nil)
      (pss_cons (ps_if (pt_cmpR (show OpR _ _ (rNeU K) from op_neU hr) (pe_ix (show IxR _ (rIx K) from ix_seq) (pv 3) pe_int (fun _ _ => rfl)) pe_str (nomark _)) (pss_one (ps_dput (hu_of hr) (pv 1) (pe_ix (show IxR _ (rIx K) from ix_seq) (pv 3) pe_int (fun _ _ => rfl)) pe_bl rfl)) pss_nil)
      (pss_one (ps_if (pt_cmpR op_gt (pe_callB (show CallR _ _ (rLenU K) from call_lenU) (by rfl) T.z_len PySem.boot_len (pa_cons (pv 1) pa_nil)) (pe_glob rfl T.c_MOST_LABELS T.r_MOST_LABELS) (nomark _)) (pss_one ps_never) pss_nil)))))))), fn_body (fun as Φ hs => ?_) vs H Q E h⟩
    obtain ⟨p, rfl, op, h⟩ := hs
    have n1 := op.n1
    have n12 := op.n12
    obtain ⟨ts, ht8, htg, hts⟩ := op.lb
    refine ws_seq ?_
    walk_at "zk"
    · (exfalso; simp only [decide_eq_true_eq, decide_eq_false_iff_not, Bool.not_eq_true', Bool.not_eq_false', List.length_map] at *; omega)
    · refine ws_forE (fun i δ' => ∃ ls : List Str, ls.Nodup ∧ (∀ z ∈ ls, z ∈ ts) ∧ δ' = [some (.dat (.tup (p.map pD))), some (.ownD (lbD ls)), none, none]) ⟨_, ⟨[], List.nodup_nil, nofun, rfl⟩, by walk_at "zt"⟩ (wi_enumT (wa_cons (we_var rfl (wa_nil ⟨_, rfl, fun i d δ0 hi hP => ?_, fun _ _ _ _ => h⟩))))
      obtain ⟨ls, lnd, lts, rfl⟩ := hP
      obtain ⟨x, hx, rfl⟩ := enum_at hi
      have hxm := List.mem_of_getElem? hx
      have gx := op.ok x hxm
      have hl : i < p.length := (List.getElem?_eq_some_iff.mp hx).1
      refine wg_tup rfl (wgs_cons (wg_name (wgs_cons (wg_name (wgs_nil ?_)))))
      refine ws_cut [some (.dat (.tup (p.map pD))), some (.ownD (lbD ls)), some (.dat (.int (i : Int))), some (.dat (pD x))] ?_ ?_
      · refine ws_if ?_
        walk_at "zk"
        · (exfalso; simp only [decide_eq_true_eq, decide_eq_false_iff_not, Bool.not_eq_true', Bool.not_eq_false', List.length_map] at *; omega)
        · refine ⟨gx, (hts x hxm).imp id fun m => htg _ m, true, rfl, nofun, fun _ => ?_⟩
          have d1 : ∀ (i' : Nat) (a c : Str × Str), p[i']? = some a → p[i' + 1]? = some c → (!decide (a.1.cps.toList < c.1.cps.toList)) = true → False := fun i' a c h1 h2 e2 => by
            rw [decide_eq_true (show a.1.cps.toList < c.1.cps.toList from op.asc _ _ _ h1 h2)] at e2; cases e2
          walk_at "zk"
          · obtain ⟨j, rfl⟩ : ∃ j, i = j + 1 := ⟨i - 1, by have := of_decide_eq_true e; omega⟩
            have hj : j < p.length := by omega
            have hy : p[j]? = some p[j] := List.getElem?_eq_getElem hj
            have la : L2.atI (p.map pD) (((j + 1 : Nat) : Int) - 1) = some (pD p[j]) := by
              rw [show (((j + 1 : Nat) : Int) - 1) = ((j : Nat) : Int) by omega]
              exact Z.atI_nat (by rw [List.getElem?_map, hy]; rfl)
            refine os_ix_tup la ?_
            walk_at "zk"
            exact (d1 _ _ _ hy hx e).elim
      · refine ws_cut [some (.dat (.tup (p.map pD))), some (.ownD (lbD (if x.2 = "" then ls else if x.2 ∈ ls then ls else ls ++ [x.2]))), none, none] ?_ ?_
        · by_cases ne : x.2 = ""
          · rw [if_pos ne]
            refine ws_if ?_
            walk_at "zk"
            exact absurd ne (by simpa using e)
          · rw [if_neg ne]
            refine ws_if ?_
            walk_at "zk"
            · refine ws_dput rfl ?_ ?_
              · have := nd_len lnd lts
                show (lbD ls).length < _
                unfold lbD
                rw [List.length_map]; omega
              · walk_at "zk"
                refine ⟨Sum.inr x.2, rfl, ?_⟩
                rw [lb_put]
                refine ⟨_, rfl, ?_⟩
                walk_at "zt"
            · exact absurd (by simpa using e) ne
        · generalize hn : (if x.2 = "" then ls else if x.2 ∈ ls then ls else ls ++ [x.2]) = ls'
          have l1 : ls'.Nodup ∧ ∀ z ∈ ls', z ∈ ts := by
            rw [← hn]
            split
            · exact ⟨lnd, lts⟩
            · rename_i ne
              have mt : x.2 ∈ ts := (hts x hxm).resolve_left ne
              split
              · exact ⟨lnd, lts⟩
              · rename_i nm
                refine ⟨List.nodup_append.mpr ⟨lnd, by simp, fun a ha b hb e => nm (by simp at hb; rw [← hb, ← e]; exact ha)⟩, fun z hz => ?_⟩
                rcases List.mem_append.mp hz with q | q
                · exact lts z q
                · rw [List.mem_singleton.mp q]; exact mt
          have := nd_len l1.1 l1.2
          have ll : (lbD ls').length = ls'.length := by unfold lbD; rw [List.length_map]
          refine ws_if (wt_test ?_)
          refine we_op ?_
          refine we_cb ?_
          refine wa_cons ?_
          refine we_varD rfl ?_
          refine wa_nil ?_
          refine cs_len rfl ?_
          refine we_int ?_
          refine os_gt ?_
          refine ⟨_, rfl, fun e => ?_, fun _ => ws_next ⟨_, ⟨ls', l1.1, l1.2, rfl⟩, by walk_at "zt"⟩⟩
          rw [ll] at e
          have := of_decide_eq_true e
          omega
  case len => obtain ⟨a, rfl, _⟩ := h; rfl
def rowD (ps : Pl) (es : List Ev) (k : Nat) : D := .dic (hD (ps.map (·.1)) (hAt es k))
def rowsD (ps : Pl) (es : List Ev) (n : Nat) : List D := (List.range (n + 1)).map fun k => rowD ps es k
theorem rows_snoc (ps : Pl) (es : List Ev) (n : Nat) : rowsD ps es (n + 1) = rowsD ps es n ++ [rowD ps es (n + 1)] := by
  unfold rowsD; rw [List.range_succ, List.map_append]; rfl
theorem rows_at (ps : Pl) (es : List Ev) {n k : Nat} (h : k ≤ n) : (rowsD ps es n)[k]? = some (rowD ps es k) := by
  unfold rowsD; rw [List.getElem?_map, List.getElem?_range (by omega)]; rfl
theorem rows_last (ps : Pl) (es : List Ev) (n : Nat) : (rowsD ps es n).getLast? = some (rowD ps es n) := by
  unfold rowsD; rw [List.range_succ, List.map_append]; simp
theorem OkP.nd {ps : Pl} (op : OkP ps) : (ps.map (·.1)).Nodup := by
  have key : ∀ (n j : Nat) (a c : Str × Str), ps[j]? = some a → ps[j + n + 1]? = some c → ltS a.1 c.1 := by
    intro n
    induction n with
    | zero => exact fun j a c h1 h2 => op.asc j a c h1 h2
    | succ n ih =>
      intro j a c h1 h2
      have hl := (List.getElem?_eq_some_iff.mp h2).1
      have hm : ps[j + n + 1]? = some ps[j + n + 1] := List.getElem?_eq_getElem (by omega)
      exact List.lt_trans (ih j a _ h1 hm) (op.asc (j + n + 1) _ c hm h2)
  refine List.pairwise_iff_getElem.mpr fun i j hi hj hij e => ?_
  rw [List.length_map] at hi hj
  obtain ⟨n, rfl⟩ : ∃ n, j = i + n + 1 := ⟨j - i - 1, by omega⟩
  have := key n i _ _ (List.getElem?_eq_getElem hi) (List.getElem?_eq_getElem hj)
  rw [List.getElem_map, List.getElem_map] at e
  unfold ltS at this
  rw [e] at this
  exact List.lt_irrefl _ this
theorem cutD_to (xs : List D) (n : Nat) : Z.cutD xs none (some (n : Int)) = xs.take n := by
  unfold Z.cutD
  rw [HT.sIx_none, HT.sIx_nat, List.drop_zero, Nat.sub_zero]
  rcases Nat.le_total n xs.length with c | c
  · rw [Nat.min_eq_left c]
  · rw [Nat.min_eq_right c, List.take_of_length_le (Nat.le_refl _), List.take_of_length_le c]
def S_held_rows : List AV → (D → Prop) → Prop := fun as Φ => ∃ (ps : Pl) (es : List Ev), as = [.dat (.tup (ps.map pD)), .dat (.tup (es.map evD))] ∧ OkP ps ∧ OkEs (ps.map (·.1)) es ∧ Φ (.tup (rowsD ps es es.length))
theorem ok_held_rows (T : Txt K mg A w) : FnOk P w K mg base CX0 6 A.f_held_rows A.d_held_rows ["places", "events"] (spA K S_held_rows) := by
  have G_held_behind := ok_held_behind (P := P) (w := w) (base := base) T
  have G_is_event := ok_is_event (P := P) (w := w) (base := base) T
  refine T.F_held_rows.ok sc_held_rows (fun vs H Q E h => spA_len h fun as Φ h => ?len) (fun cdv Ar outer s H vs Q E hr h => ?body)
  case body =>
    have hr_held_behind := hr.mono (k := _) (j := _) (by decide : 1 ≤ 5)
    have hr_is_event := hr.mono (k := _) (j := _) (by decide : 5 ≤ 5)
    refine ⟨_, (pss_cons (ps_if (pt_not (pt_val (pe_callB (show CallR _ _ (rIsi K) from call_isi) (by rfl) T.z_isinstance boot_isinstance (pa_cons (pv 1) (pa_cons (pe_bltn (v := .ty "tuple") rfl T.z_tuple (by decide +kernel) rfl) pa_nil))))) (pss_one ps_never) pss_nil)
      (pss_cons (ps_set (i := 2) sc_held_rows.nd rfl (by first | exact Or.inl rfl | exact Or.inr rfl) (pe_lst (pa_cons (pe_dc (own := [("name", 5), ("label", 6)]) rfl sc_held_rows.nd (pi_tup (pv 0)) (blkOk_by (N := ["places", "events", "rows", "index", "event", "name", "label"]) (sc := defScope s_held_rows) (by decide +kernel)) (fun _ _ _ _ _ => (show PG _ _ (gTup K _ _) from pg_tup (n := 2) rfl (pgs_cons (pg_name (i := 5) sc_held_rows.nd rfl (by first | exact Or.inl rfl | exact Or.inr rfl)) (pgs_cons (pg_name (i := 6) sc_held_rows.nd rfl (by first | exact Or.inl rfl | exact Or.inr rfl)) pgs_nil)))) (fun _ _ _ _ _ => pts_nil) (fun _ _ _ _ _ => (pv 5)) (fun _ _ _ _ _ => pe_int)) pa_nil)))
      (pss_cons (ps_for PassesOwn.never rfl (pi_enumT (by rfl) T.z_enumerate (pa_cons (pv 1) pa_nil)) (show PG _ _ (gTup K _ _) from pg_tup (n := 2) rfl (pgs_cons (pg_name (i := 3) sc_held_rows.nd rfl (by first | exact Or.inl rfl | exact Or.inr rfl)) (pgs_cons (pg_name (i := 4) sc_held_rows.nd rfl (by first | exact Or.inl rfl | exact Or.inr rfl)) pgs_nil))) (pss_cons (ps_if (PW.pt (pw_or (pt_cmpR (show OpR _ _ (rEqU K) from op_eqU hr) (pv 3) (pe_glob rfl T.c_MOST_EVENTS T.r_MOST_EVENTS) (nomark _)) (pw_or1 (pt_not (pt_val (pe_call G_is_event hr_is_event rfl T.m_is_event T.F_is_event.kp T.b_is_event .nil pass0 (pa_cons (pe_ix (show IxR _ (rIx K) from ix_seq) (pv 2) (pe_un un_neg pe_int) (fun _ _ => rfl)) (pa_cons (pe_slice (show SlR _ (rSlU K) from sl_U) (pv 1) po_none (po_some (pv 3))) (pa_cons (pv 4) pa_nil))))))))) (pss_one ps_never) pss_nil)
      (pss_one (ps_expr (pe_bm PySem.F.plainAttrs_list PySem.F.slot_list_append PySem.F.type_list_append mt_append (pv 2) (pa_cons (pe_call G_held_behind hr_held_behind rfl T.m_held_behind T.F_held_behind.kp T.b_held_behind .nil pass0 (pa_cons (pe_ix (show IxR _ (rIx K) from ix_seq) (pv 2) (pe_un un_neg pe_int) (fun _ _ => rfl)) (pa_cons (pv 4) pa_nil))) pa_nil))))))
      (pss_one (ps_ret (pe_callTy (show CallR _ _ (rTupleU K) from call_tupleU) (by rfl) T.z_tuple PyProof.Rows.boot_tuple (pa_cons (pv 2) pa_nil))))))), fn_body (fun as Φ hs => ?_) vs H Q E h⟩
    obtain ⟨ps, es, rfl, op, oe, h⟩ := hs
    have n12 := op.n12
    have e40 := oe.few
    have ne0 : ∀ {i : Nat}, i < es.length → decide ((i : Int) = 40) = true → False := fun h1 h2 => by have := of_decide_eq_true h2; omega
    refine ws_seq (ws_if (wt_not (wt_B ?_)))
    refine we_cb ?_
    refine wa_cons ?_
    refine we_var rfl ?_
    refine wa_cons ?_
    refine we_ty ?_
    refine wa_nil ?_
    refine cs_isi (b := true) rfl (by decide +kernel) ?_
    refine ⟨_, rfl, nofun, fun _ => ws_next (ws_seq (ws_newLs ?_))⟩
    refine wa_cons (we_dc (wr_name2 5 6) (mono_name2 5 6) (by simp) (wi_tup (we_var rfl ⟨_, rfl, by rw [List.length_map]; omega, fun i acc => acc = hD ((ps.take i).map (·.1)) (fun _ => 0), rfl, fun i d acc hi hJ => ?_, fun acc hJ => ?_⟩)))
    · subst hJ
      obtain ⟨q, hq, rfl⟩ := map_at hi
      refine wg_tup rfl (wgs_cons (wg_name (wgs_cons (wg_name (wgs_nil (wt_true ⟨fun _ => ?_, nofun⟩))))))
      refine we_var rfl (we_int ⟨Sum.inr q.1, rfl, ?_⟩)
      show putD (hD ((ps.take i).map (·.1)) fun _ => 0) (Sum.inr q.1) (.int ((fun _ => (0 : Int)) q.1)) = hD ((ps.take (i + 1)).map (·.1)) fun _ => 0
      rw [hD_new (by rw [List.map_take]; exact nd_at op.nd (by rw [List.getElem?_map, hq]; rfl)), tk_snoc hq, List.map_append]
      rfl
    · subst hJ
      rw [List.length_map, List.take_length]
      refine wa_nil ⟨Nat.le_of_ble_eq_true rfl, _, rfl, ?_⟩
      refine ws_forU (fun i δ' => i ≤ es.length ∧ δ' = [some (.dat (.tup (ps.map pD))), some (.dat (.tup (es.map evD))), some (.own (rowsD ps es i)), none, none, none, none]) ⟨_, ⟨Nat.zero_le _, rfl⟩, by show Z.Le _ [_, _, some (.own [D.dic (hD (ps.map (·.1)) fun _ => 0)]), _, _, _, _]; walk_at "zt"⟩ (wi_enumT (wa_cons (we_var rfl (wa_nil ⟨_, rfl, fun i d δ0 hi hP => ?_, fun δ0 hP => ?_⟩))))
      · obtain ⟨hle, rfl⟩ := hP
        obtain ⟨x, hx, rfl⟩ := enum_at hi
        have hl : i < es.length := (List.getElem?_eq_some_iff.mp hx).1
        have lr : L2.atI (rowsD ps es i) (-1) = some (rowD ps es i) := atI_last (rows_last ps es i)
        have ox := oe.ok i x hx
        refine wg_tup rfl (wgs_cons (wg_name (wgs_cons (wg_name (wgs_nil ?_)))))
        refine ws_seq (ws_if (wt_or (wt_test ?_)))
        refine we_op ?_
        refine we_var rfl ?_
        refine we_int ?_
        refine os_eq_int ?_
        refine ⟨_, rfl, fun e => (ne0 hl e).elim, fun _ => wt_not (wt_B (we_call (wa_cons (we_ixO rfl (we_un (we_int (us_neg ⟨_, _, rfl, lr, ?_⟩)))))))⟩
        refine wa_cons (we_sl (we_var rfl (wo_none (wo_some (we_var rfl ⟨_, rfl, ss_tup ?_⟩)))))
        rw [cutD_to, ← List.map_take]
        refine wa_cons (we_var rfl (wa_nil ⟨ps.map (·.1), hAt es i, es.take i, x, rfl, ox, true, rfl, nofun, fun _ => ws_next ?_⟩))
        refine ws_app rfl (by unfold rowsD; rw [List.length_map, List.length_range]; omega) (we_call (wa_cons (we_ixO rfl (we_un (we_int (us_neg ⟨_, _, rfl, lr, ?_⟩))))))
        refine wa_cons (we_var rfl (wa_nil ⟨ps.map (·.1), hAt es i, x, rfl, op.nd, by rw [List.length_map]; omega, ox.2.2.2.inn, ?_⟩))
        rw [← hAt_succ hx]
        refine ⟨_, ⟨hl, rfl⟩, ?_⟩
        rw [rows_snoc]
        walk_at "zt"
      · obtain ⟨hle, rfl⟩ := hP
        rw [enumD_len, List.length_map]
        refine ws_ret (we_cb (wa_cons (we_varO rfl (wa_nil (cs_tuple_lst h)))))
  case len => obtain ⟨a, c, rfl, _⟩ := h; rfl
end
end T25

namespace T25
open PySem PySem.Spec PyProof.Rows L2 Z
def hallD (A : Adr) (ps : Pl) (es : List Ev) : D := .ins A.C_Hall [("held", .tup (rowsD ps es es.length)), ("places", .tup (ps.map pD)), ("events", .tup (es.map evD)), ("parts", .tup [.tup (ps.map pD), .tup (es.map evD)]), ("tags", .dic (ps.map fun q => ((Sum.inr q.1 : Key), D.str q.2)))]
/-- something is left of what was there -/
def isLeft (h : Str → Int) (z : Str) : Ev → Bool
  | .move _ p _ n => if p = z then decide (n < h z) else true
  | .away _ p n => if p = z then decide (n < h z) else true
  | .sample _ p n _ _ => if p = z then decide (n < h z) else true
  | _ => true
abbrev Ws := List (Str × List Nat)
def wGet (ws : Ws) (p : Str) : Option (List Nat) := (ws.find? fun q => decide (q.1 = p)).map (·.2)
def wStep (h : Str → Int) (e : Ev) (i : Nat) (ws : Ws) : Ws :=
  match e with
  | .move d p q n => match wGet ws p with
    | some w => if q ∈ (ws.filter fun x => isLeft h x.1 e).map (·.1) then ws.filter fun x => isLeft h x.1 e else (ws.filter fun x => isLeft h x.1 e) ++ [(q, w ++ [i])]
    | none => ws.filter fun x => isLeft h x.1 e
  | _ => ws.filter fun x => isLeft h x.1 e
def pourAt : Ev → Str
  | .pour _ p _ _ _ => p
  | _ => ""
/-- the ways n events behind the pour -/
def waysN (es : List Ev) (k : Nat) : Nat → Ws
  | 0 => [(match es[k]? with | some e => pourAt e | none => "", [k])]
  | n + 1 => match es[k + 1 + n]? with
    | some e => wStep (hAt es (k + 1 + n)) e (k + 1 + n) (waysN es k n)
    | none => waysN es k n
abbrev njD (l : List Nat) : List D := l.map fun (j : Nat) => D.int (j : Int)
def wD (ws : Ws) : List (Key × D) := ws.map fun q => ((Sum.inr q.1 : Key), D.tup (njD q.2))
structure WOk (ns : List Str) (ws : Ws) (m : Nat) : Prop where
  nd : (ws.map (·.1)).Nodup
  inn : ∀ q ∈ ws, q.1 ∈ ns
  len : ∀ q ∈ ws, q.2.length ≤ m
theorem wGet_mem {ws : Ws} {p : Str} {w : List Nat} (h : wGet ws p = some w) : (p, w) ∈ ws := by
  unfold wGet at h
  obtain ⟨q, h1, rfl⟩ := Option.map_eq_some_iff.mp h
  have := List.find?_some h1
  simp at this
  subst this
  exact List.mem_of_find?_eq_some h1
theorem wGet_none {ws : Ws} {p : Str} : wGet ws p = none ↔ p ∉ ws.map (·.1) := by
  unfold wGet
  rw [Option.map_eq_none_iff, List.find?_eq_none]
  constructor
  · intro h m
    obtain ⟨q, hq, e⟩ := List.mem_map.mp m
    exact h q hq (by simpa using e)
  · intro h q hq e
    exact h (List.mem_map.mpr ⟨q, hq, by simpa using e⟩)
theorem wGet_some {ws : Ws} {p : Str} (h : p ∈ ws.map (·.1)) : ∃ w, wGet ws p = some w := by
  cases e : wGet ws p with
  | none => exact absurd h (wGet_none.mp e)
  | some w => exact ⟨w, rfl⟩
theorem wGet_nd {ws : Ws} (nd : (ws.map (·.1)).Nodup) {q : Str × List Nat} (h : q ∈ ws) : wGet ws q.1 = some q.2 := by
  induction ws with
  | nil => cases h
  | cons a r ih =>
    rw [List.map_cons] at nd
    obtain ⟨n1, n2⟩ := List.nodup_cons.mp nd
    unfold wGet
    rcases List.mem_cons.mp h with rfl | m
    · rw [List.find?_cons_of_pos (by simp)]; rfl
    · have ne : a.1 ≠ q.1 := fun e => n1 (by rw [e]; exact List.mem_map_of_mem (f := (·.1)) m)
      rw [List.find?_cons_of_neg (by simpa using ne)]
      exact ih n2 m
theorem wD_val (ws : Ws) (p : Str) : valD (wD ws) (Sum.inr p) = (wGet ws p).map fun w => D.tup (njD w) := by
  unfold wD
  rw [val_map (fun q : Str × List Nat => q.1) (fun q => D.tup (njD q.2))]
  unfold wGet
  rw [Option.map_map]; rfl
theorem wD_some (ws : Ws) (p : Str) : (valD (wD ws) (Sum.inr p)).isSome = decide (p ∈ ws.map (·.1)) := by
  rw [wD_val]
  by_cases m : p ∈ ws.map (·.1)
  · obtain ⟨w, h⟩ := wGet_some m
    rw [h, decide_eq_true m]; rfl
  · rw [wGet_none.mpr m, decide_eq_false m]; rfl
theorem WOk.filter {ns : List Str} {ws : Ws} {m : Nat} (o : WOk ns ws m) (p : Str × List Nat → Bool) : WOk ns (ws.filter p) m :=
  ⟨o.nd.sublist (List.filter_sublist.map _), fun q hq => o.inn q (List.mem_filter.mp hq).1, fun q hq => o.len q (List.mem_filter.mp hq).1⟩
theorem WOk.step {ns : List Str} {ws : Ws} {m : Nat} (o : WOk ns ws m) {e : Ev} (hi : e.In ns) (h : Str → Int) (i : Nat) : WOk ns (wStep h e i ws) (m + 1) := by
  have wk : ∀ {ws : Ws}, WOk ns ws m → WOk ns ws (m + 1) := fun o => ⟨o.nd, o.inn, fun q hq => Nat.le_succ_of_le (o.len q hq)⟩
  unfold wStep
  cases e with
  | move d p q n =>
    dsimp only
    cases g : wGet ws p with
    | none => exact wk (o.filter _)
    | some w =>
      dsimp only
      have of := o.filter fun x => isLeft h x.1 (.move d p q n)
      split
      · exact wk of
      · rename_i nm
        refine ⟨?_, fun x hx => ?_, fun x hx => ?_⟩
        · rw [List.map_append]
          exact List.nodup_append.mpr ⟨of.nd, by simp, fun a ha b hb e => nm (by simp at hb; rw [← hb, ← e]; exact ha)⟩
        · rcases List.mem_append.mp hx with z | z
          · exact of.inn x z
          · rw [List.mem_singleton.mp z]; exact hi.2
        · rcases List.mem_append.mp hx with z | z
          · exact Nat.le_succ_of_le (of.len x z)
          · rw [List.mem_singleton.mp z]
            show (w ++ [i]).length ≤ _
            rw [List.length_append]
            have := o.len _ (wGet_mem g)
            simp at this ⊢
            omega
  | _ => exact wk (o.filter _)
theorem WOk.few {ns : List Str} {ws : Ws} {m : Nat} (o : WOk ns ws m) : ws.length ≤ ns.length := by
  rw [← List.length_map (f := (·.1))]
  exact nd_len o.nd fun z hz => by
    obtain ⟨q, hq, rfl⟩ := List.mem_map.mp hz
    exact o.inn q hq
section
variable {P : Program} {w : World} {K : PySem.W.Frag} {mg : Str → Option Value} {base : Heap} {A : Adr}
def S_need_hall : List AV → (D → Prop) → Prop := fun as Φ => ∃ ps es, as = [.dat (hallD A ps es)] ∧ Φ .non
theorem ok_need_hall (T : Txt K mg A w) : FnOk P w K mg base CX0 1 A.f_need_hall A.d_need_hall ["value"] (spA K (S_need_hall (A := A))) := by
  refine T.F_need_hall.ok sc_need_hall (fun vs H Q E h => spA_len h fun as Φ h => ?len) (fun cdv Ar outer s H vs Q E hr h => ?body)
  case body =>
    refine ⟨_, (pss_one (ps_if (pt_not (pt_val (pe_callB (C8.call_isC T.I_Hall) (by rfl) T.z_isinstance boot_isinstance (pa_cons (pv 0) (pa_cons (pe_glob (v := .ref A.C_Hall) rfl T.m_Hall rfl) pa_nil))))) (pss_one ps_never) pss_nil)), fn_body (fun as Φ hs => ?_) vs H Q E h⟩
    obtain ⟨ps, es, rfl, h⟩ := hs
    exact ws_if (wt_not (wt_B (we_cb (wa_cons (we_var rfl (wa_cons (we_cref (wa_nil (cs_isC ⟨true, rfl, nofun, fun _ => ws_next h⟩)))))))))
  case len => obtain ⟨a, b, rfl, _⟩ := h; rfl
def S_need_event : List AV → (D → Prop) → Prop := fun as Φ => ∃ ps es, ∃ k : Int, as = [.dat (hallD A ps es), .dat (.int k)] ∧ -1 ≤ k ∧ k ≤ (es.length : Int) - 1 ∧ Φ .non
theorem ok_need_event (T : Txt K mg A w) : FnOk P w K mg base CX0 4 A.f_need_event A.d_need_event ["hall", "event"] (spA K (S_need_event (A := A))) := by
  have G_need_number := ok_need_number (P := P) (w := w) (base := base) T
  refine T.F_need_event.ok sc_need_event (fun vs H Q E h => spA_len h fun as Φ h => ?len) (fun cdv Ar outer s H vs Q E hr h => ?body)
  case body =>
    have hr_need_number := hr.mono (k := _) (j := _) (by decide : 3 ≤ 3)
    refine ⟨_, (pss_one (ps_expr (pe_call G_need_number hr_need_number rfl T.m_need_number T.F_need_number.kp T.b_need_number .nil pass0 (pa_cons (pv 1) (pa_cons (pe_un un_neg pe_int) (pa_cons (pe_op op_sub (pe_callB (show CallR _ _ (rLenU K) from call_lenU) (by rfl) T.z_len PySem.boot_len (pa_cons (show PE _ _ (tFld K _ _) from pe_fld (pv 0) rfl) pa_nil)) pe_int) pa_nil)))))), fn_body (fun as Φ hs => ?_) vs H Q E h⟩
    obtain ⟨ps, es, k, rfl, h1, h2, h⟩ := hs
    refine ws_drop (we_call (wa_cons (we_var rfl (wa_cons (we_un (we_int (us_neg (wa_cons ?_))))))))
    refine we_op ?_
    refine we_cb ?_
    refine wa_cons ?_
    refine we_fld ?_
    refine we_var rfl ?_
    refine ⟨_, _, _, rfl, T.K_Hall, T.n_events, rfl, ?_⟩
    refine wa_nil ?_
    refine cs_len rfl ?_
    refine we_int ?_
    refine os_sub ?_
    refine wa_nil ?_
    exact ⟨k, -1, _, rfl, h1, by rw [List.length_map]; exact h2, h⟩
  case len => obtain ⟨a, b, c, rfl, _⟩ := h; rfl
def S_need_place : List AV → (D → Prop) → Prop := fun as Φ => ∃ ps es z, as = [.dat (hallD A ps es), .dat (.str z)] ∧ z ∈ ps.map (·.1) ∧ Φ .non
theorem ok_need_place (T : Txt K mg A w) : FnOk P w K mg base CX0 1 A.f_need_place A.d_need_place ["hall", "place"] (spA K (S_need_place (A := A))) := by
  refine T.F_need_place.ok sc_need_place (fun vs H Q E h => spA_len h fun as Φ h => ?len) (fun cdv Ar outer s H vs Q E hr h => ?body)
  case body =>
    refine ⟨_, (pss_one (ps_if (PW.pt (pw_or (pt_not (pt_val (pe_callB (show CallR _ _ (rIsi K) from call_isi) (by rfl) T.z_isinstance boot_isinstance (pa_cons (pv 1) (pa_cons (pe_bltn (v := .ty "str") rfl T.z_str (by decide +kernel) rfl) pa_nil))))) (pw_or1 (pt_cmpR (show OpR _ _ (rNotInU K) from op_notInU hr) (pv 1) (show PE _ _ (tFld K _ _) from pe_fld (pv 0) rfl) (by rfl))))) (pss_one ps_never) pss_nil)), fn_body (fun as Φ hs => ?_) vs H Q E h⟩
    obtain ⟨ps, es, z, rfl, hz, h⟩ := hs
    refine ws_if (wt_or (wt_not (wt_B (we_cb (wa_cons (we_var rfl (wa_cons (we_ty (wa_nil (cs_isi rfl (by decide +kernel) ⟨true, rfl, nofun, fun _ => ?_⟩))))))))))
    refine wt_test ?_
    refine we_op ?_
    refine we_var rfl ?_
    refine we_fld ?_
    refine we_var rfl ?_
    refine ⟨_, _, _, rfl, T.K_Hall, T.n_tags, rfl, ?_⟩
    refine os_notIn_dic ?_
    have : (valD (ps.map fun q => ((Sum.inr q.1 : Key), D.str q.2)) (Sum.inr z)).isSome = true := by
      rw [val_map (fun q : Str × Str => q.1) (fun q => D.str q.2)]
      obtain ⟨q, hq, e⟩ := List.mem_map.mp hz
      cases f : ps.find? fun a => decide (a.1 = z) with
      | none => exact absurd (List.find?_eq_none.mp f q hq) (by simpa using e)
      | some x => rfl
    rw [this]
    exact ⟨_, rfl, nofun, fun _ => ws_next h⟩
  case len => obtain ⟨a, b, c, rfl, _⟩ := h; rfl
def S_need_pour : List AV → (D → Prop) → Prop := fun as Φ => ∃ ps es, ∃ k : Nat, ∃ e : Ev, as = [.dat (hallD A ps es), .dat (.int (k : Int))] ∧ es[k]? = some e ∧ e.isPour = true ∧ Φ .non
theorem ok_need_pour (T : Txt K mg A w) : FnOk P w K mg base CX0 3 A.f_need_pour A.d_need_pour ["hall", "pour"] (spA K (S_need_pour (A := A))) := by
  have G_is_number := ok_is_number (P := P) (w := w) (base := base) T
  refine T.F_need_pour.ok sc_need_pour (fun vs H Q E h => spA_len h fun as Φ h => ?len) (fun cdv Ar outer s H vs Q E hr h => ?body)
  case body =>
    have hr_is_number := hr.mono (k := _) (j := _) (by decide : 2 ≤ 2)
    refine ⟨_, (pss_one (ps_if (PW.pt (pw_or (pt_not (pt_val (pe_call G_is_number hr_is_number rfl T.m_is_number T.F_is_number.kp T.b_is_number .nil pass0 (pa_cons (pv 1) (pa_cons pe_int (pa_cons (pe_op op_sub (pe_callB (show CallR _ _ (rLenU K) from call_lenU) (by rfl) T.z_len PySem.boot_len (pa_cons (show PE _ _ (tFld K _ _) from pe_fld (pv 0) rfl) pa_nil)) pe_int) pa_nil)))))) (pw_or1 (pt_cmpR (show OpR _ _ (rNeU K) from op_neU hr) (pe_ix (show IxR _ (rIx K) from ix_seq) (pe_ix (show IxR _ (rIx K) from ix_seq) (show PE _ _ (tFld K _ _) from pe_fld (pv 0) rfl) (pv 1) (fun _ _ => rfl)) pe_int (fun _ _ => rfl)) pe_str (nomark _))))) (pss_one ps_never) pss_nil)), fn_body (fun as Φ hs => ?_) vs H Q E h⟩
    obtain ⟨ps, es, k, e, rfl, he, hp, h⟩ := hs
    have hl := (List.getElem?_eq_some_iff.mp he).1
    have le : L2.atI (es.map evD) (k : Int) = some (evD e) := Z.atI_nat (by rw [List.getElem?_map, he]; rfl)
    refine ws_if (wt_or (wt_not (wt_B (we_call (wa_cons (we_var rfl (wa_cons (we_int (wa_cons ?_)))))))))
    refine we_op ?_
    refine we_cb ?_
    refine wa_cons ?_
    refine we_fld ?_
    refine we_var rfl ?_
    refine ⟨_, _, _, rfl, T.K_Hall, T.n_events, rfl, ?_⟩
    refine wa_nil ?_
    refine cs_len rfl ?_
    refine we_int ?_
    refine os_sub ?_
    refine wa_nil ?_
    refine ⟨(k : Int), 0, _, rfl, by omega, by rw [List.length_map]; omega, true, rfl, nofun, fun _ => wt_test ?_⟩
    refine we_op ?_
    refine we_op ?_
    refine we_op ?_
    refine we_fld ?_
    refine we_var rfl ?_
    refine ⟨_, _, _, rfl, T.K_Hall, T.n_events, rfl, ?_⟩
    refine we_var rfl ?_
    refine os_ix_tup le ?_
    refine we_int ?_
    refine os_ix_tup (ev_kind e) ?_
    refine we_str ?_
    refine os_ne_str ?_
    cases e with
    | pour => exact ⟨_, rfl, fun q => absurd (show (!decide (("pour" : Str) = "pour")) = true from q) (by decide +kernel), fun _ => ws_next h⟩
    | _ => cases hp
  case len => obtain ⟨a, b, c, d, rfl, _⟩ := h; rfl
def S_is_left : List AV → (D → Prop) → Prop := fun as Φ => ∃ ps es, ∃ k : Nat, ∃ e : Ev, ∃ z : Str, as = [.dat (hallD A ps es), .dat (.int (k : Int)), .dat (.str z)] ∧ es[k]? = some e ∧ z ∈ ps.map (·.1) ∧ Φ (.bl (isLeft (hAt es k) z e))
theorem ok_is_left (T : Txt K mg A w) : FnOk P w K mg base CX0 1 A.f_is_left A.d_is_left ["hall", "index", "place"] (spA K (S_is_left (A := A))) := by
  refine T.F_is_left.ok sc_is_left (fun vs H Q E h => spA_len h fun as Φ h => ?len) (fun cdv Ar outer s H vs Q E hr h => ?body)
  case body =>
    refine ⟨_, (pss_cons (ps_set (i := 3) sc_is_left.nd rfl (by first | exact Or.inl rfl | exact Or.inr rfl) (pe_ix (show IxR _ (rIx K) from ix_seq) (show PE _ _ (tFld K _ _) from pe_fld (pv 0) rfl) (pv 1) (fun _ _ => rfl)))
      (pss_cons (ps_if (PW.pt (pw_or (pt_cmpR (op_notIn_kd T.k_TAKEN) (pe_ix (show IxR _ (rIx K) from ix_seq) (pv 3) pe_int (fun _ _ => rfl)) (pe_glob (v := .ref A.W_TAKEN) rfl T.c_TAKEN rfl) (by rfl)) (pw_or1 (pt_cmpR (show OpR _ _ (rNeU K) from op_neU hr) (pe_ix (show IxR _ (rIx K) from ix_seq) (pv 3) pe_int (fun _ _ => rfl)) (pv 2) (nomark _))))) (pss_one (ps_ret pe_bl)) pss_nil)
      (pss_one (ps_ret (pe_cmpR op_ltU (pe_ix (show IxR _ (rIx K) from ix_seq) (pv 3) (pe_ix (show IxR _ (rIxD K w) from ix_kdict) (pe_glob (v := .ref A.W_TAKEN) rfl T.c_TAKEN rfl) (pe_ix (show IxR _ (rIx K) from ix_seq) (pv 3) pe_int (fun _ _ => rfl)) (fun _ _ => rfl)) (fun _ _ => rfl)) (pe_dget (hu_of hr) (pe_ix (show IxR _ (rIx K) from ix_seq) (show PE _ _ (tFld K _ _) from pe_fld (pv 0) rfl) (pv 1) (fun _ _ => rfl)) (pv 2) (fun _ _ => rfl)) (nomark _)))))), fn_body (fun as Φ hs => ?_) vs H Q E h⟩
    obtain ⟨ps, es, k, e, z, rfl, he, hz, h⟩ := hs
    have hl := (List.getElem?_eq_some_iff.mp he).1
    have le : L2.atI (es.map evD) (k : Int) = some (evD e) := Z.atI_nat (by rw [List.getElem?_map, he]; rfl)
    have lr : L2.atI (rowsD ps es es.length) (k : Int) = some (rowD ps es k) := Z.atI_nat (rows_at ps es (by omega))
    refine ws_seq (ws_asg ?_)
    refine we_op ?_
    refine we_fld ?_
    refine we_var rfl ?_
    refine ⟨_, _, _, rfl, T.K_Hall, T.n_events, rfl, ?_⟩
    refine we_var rfl ?_
    refine os_ix_tup le ?_
    have no : ∀ {δ : Sl} {Ψ : D → Prop}, δ[0]? = some (some (.dat (hallD A ps es))) → δ[1]? = some (some (.dat (.int (k : Int)))) → δ[2]? = some (some (.dat (.str z))) → Ψ (.int (hAt es k z)) → Z.WE K false (tDGet (tOp (rIx K) (tFld K (tVar 0) "held") (tVar 1)) (tVar 2)) δ Ψ := fun h0 h1 h2 hh => by
      refine we_dget (we_op (we_fld (we_var h0 ⟨_, _, _, rfl, T.K_Hall, T.n_held, rfl, we_var h1 (os_ix_tup lr ⟨_, rfl, we_var h2 ⟨Sum.inr z, _, rfl, hD_val hz, hh⟩⟩)⟩)))
    refine ws_seq (ws_if (wt_or (wt_test ?_)))
    cases e with
    | pour d p n lo hi =>
      walk_at "zk"
      refine os_notIn_kd T.w_TAKEN ?_
      walk_at "zk"
    | look d p lo hi =>
      walk_at "zk"
      refine os_notIn_kd T.w_TAKEN ?_
      walk_at "zk"
    | doubt d i lo hi =>
      walk_at "zk"
      refine os_notIn_kd T.w_TAKEN ?_
      walk_at "zk"
    | move d p q n =>
      walk_at "zk"
      refine os_notIn_kd T.w_TAKEN ?_
      walk_at "zk"
      · have : isLeft (hAt es k) z (.move d p q n) = true := if_neg (by simpa using e)
        rw [this] at h
        walk_at "zk"
      · have ez : p = z := by simpa using e
        subst ez
        refine os_ix_kd (T.i_TAKEN ("move", 4) (by decide +kernel)) ?_
        walk_at "zk"
        refine no rfl rfl rfl ?_
        walk_at "zk"
        have : isLeft (hAt es k) p (.move d p q n) = decide (n < hAt es k p) := if_pos rfl
        rw [← this]; exact h
    | away d p n =>
      walk_at "zk"
      refine os_notIn_kd T.w_TAKEN ?_
      walk_at "zk"
      · have : isLeft (hAt es k) z (.away d p n) = true := if_neg (by simpa using e)
        rw [this] at h
        walk_at "zk"
      · have ez : p = z := by simpa using e
        subst ez
        refine os_ix_kd (T.i_TAKEN ("away", 3) (by decide +kernel)) ?_
        walk_at "zk"
        refine no rfl rfl rfl ?_
        walk_at "zk"
        have : isLeft (hAt es k) p (.away d p n) = decide (n < hAt es k p) := if_pos rfl
        rw [← this]; exact h
    | sample d p n lo hi =>
      walk_at "zk"
      refine os_notIn_kd T.w_TAKEN ?_
      walk_at "zk"
      · have : isLeft (hAt es k) z (.sample d p n lo hi) = true := if_neg (by simpa using e)
        rw [this] at h
        walk_at "zk"
      · have ez : p = z := by simpa using e
        subst ez
        refine os_ix_kd (T.i_TAKEN ("sample", 3) (by decide +kernel)) ?_
        walk_at "zk"
        refine no rfl rfl rfl ?_
        walk_at "zk"
        have : isLeft (hAt es k) p (.sample d p n lo hi) = decide (n < hAt es k p) := if_pos rfl
        rw [← this]; exact h
  case len => obtain ⟨a, b, c, d, e, rfl, _⟩ := h; rfl
theorem wD_put {ws : Ws} {p : Str} {w : List Nat} (m : p ∉ ws.map (·.1)) : putD (wD ws) (Sum.inr p) (.tup (njD w)) = wD (ws ++ [(p, w)]) :=
  put_new (fun q : Str × List Nat => q.1) (fun q => D.tup (njD q.2)) (a := (p, w)) m
theorem waysN_ok {ps : Pl} {es : List Ev} (oe : OkEs (ps.map (·.1)) es) {k : Nat} {e : Ev} (he : es[k]? = some e) (hp : e.isPour = true) : ∀ n, WOk (ps.map (·.1)) (waysN es k n) (n + 1)
  | 0 => by
    have hw : waysN es k 0 = [(pourAt e, [k])] := by unfold waysN; rw [he]
    rw [hw]
    refine ⟨by simp, fun q hq => ?_, fun q hq => ?_⟩
    · rw [List.mem_singleton.mp hq]
      have := (oe.ok k e he).2.2.2.inn
      cases e with
      | pour => exact this
      | _ => cases hp
    · rw [List.mem_singleton.mp hq]; exact Nat.le_refl _
  | n + 1 => by
    have ih := waysN_ok oe he hp n
    unfold waysN
    cases hx : es[k + 1 + n]? with
    | none => exact ⟨ih.nd, ih.inn, fun q hq => Nat.le_succ_of_le (ih.len q hq)⟩
    | some x => exact ih.step (oe.ok _ x hx).2.2.2.inn _ _
theorem njD_snoc (w : List Nat) (i : Nat) : njD w ++ [D.int (i : Int)] = njD (w ++ [i]) := by unfold njD; rw [List.map_append]; rfl
def S_ways_from : List AV → (D → Prop) → Prop := fun as Φ => ∃ ps es, ∃ k n : Nat, ∃ e : Ev, as = [.dat (hallD A ps es), .dat (.int (k : Int)), .dat (.int ((k + n : Nat) : Int))] ∧ OkP ps ∧ OkEs (ps.map (·.1)) es ∧ es[k]? = some e ∧ e.isPour = true ∧ k + n < es.length ∧ Φ (.dic (wD (waysN es k n)))
theorem ok_ways_from (T : Txt K mg A w) : FnOk P w K mg base CX0 2 A.f_ways_from A.d_ways_from ["hall", "pour", "event"] (spA K (S_ways_from (A := A))) := by
  have G_is_left := ok_is_left (P := P) (w := w) (base := base) T
  refine T.F_ways_from.ok sc_ways_from (fun vs H Q E h => spA_len h fun as Φ h => ?len) (fun cdv Ar outer s H vs Q E hr h => ?body)
  case body =>
    have hr_is_left := hr.mono (k := _) (j := _) (by decide : 1 ≤ 1)
    refine ⟨_, (pss_cons (ps_set (i := 3) sc_ways_from.nd rfl (by first | exact Or.inl rfl | exact Or.inr rfl) (pe_disp (pps_cons (pe_ix (show IxR _ (rIx K) from ix_seq) (pe_ix (show IxR _ (rIx K) from ix_seq) (show PE _ _ (tFld K _ _) from pe_fld (pv 0) rfl) (pv 1) (fun _ _ => rfl)) pe_int (fun _ _ => rfl)) (pe_tup (pa_cons (pv 1) pa_nil)) pps_nil) rfl rfl (by intro z; cases z) (by decide)))
      (pss_cons (ps_for PassesOwn.never rfl (pi_range2 (by rfl) T.z_range (pa_cons (pe_op (show OpR _ _ (rAddU K) from op_addU) (pv 1) pe_int) (pa_cons (pe_op (show OpR _ _ (rAddU K) from op_addU) (pv 2) pe_int) pa_nil))) (pg_name (i := 4) sc_ways_from.nd rfl (by first | exact Or.inl rfl | exact Or.inr rfl)) (pss_cons (ps_set (i := 5) sc_ways_from.nd rfl (by first | exact Or.inl rfl | exact Or.inr rfl) (pe_ix (show IxR _ (rIx K) from ix_seq) (show PE _ _ (tFld K _ _) from pe_fld (pv 0) rfl) (pv 4) (fun _ _ => rfl)))
      (pss_cons (ps_forD (ps_lock (ps_setDc (i := 6) (own := [("place", 7)]) rfl sc_ways_from.nd rfl rfl (sw_dc rfl rfl rfl (by decide +kernel)) (pi_keys (pv 3)) (blkOk_by (N := ["hall", "pour", "event", "ways", "index", "told", "later", "place"]) (sc := defScope s_ways_from) (by decide +kernel)) (fun _ _ _ _ _ => (pg_name (i := 7) sc_ways_from.nd rfl (by first | exact Or.inl rfl | exact Or.inr rfl))) (fun _ _ _ _ _ => (pts_one (pt_val (pe_call G_is_left hr_is_left rfl T.m_is_left T.F_is_left.kp T.b_is_left .nil pass0 (pa_cons (pv 0) (pa_cons (pv 4) (pa_cons (pv 7) pa_nil))))))) (fun _ _ _ _ _ => (pv 7)) (fun _ _ _ _ _ => (pe_dget (hu_of hr) (pv 3) (pv 7) (fun _ _ => rfl))))) (ps_setDc (i := 6) (own := [("place", 7)]) rfl sc_ways_from.nd rfl rfl (sw_dc rfl rfl rfl (by decide +kernel)) (pi_keys (pv 3)) (blkOk_by (N := ["hall", "pour", "event", "ways", "index", "told", "later", "place"]) (sc := defScope s_ways_from) (by decide +kernel)) (fun _ _ _ _ _ => (pg_name (i := 7) sc_ways_from.nd rfl (by first | exact Or.inl rfl | exact Or.inr rfl))) (fun _ _ _ _ _ => (pts_one (pt_val (pe_call G_is_left hr_is_left rfl T.m_is_left T.F_is_left.kp T.b_is_left .nil pass0 (pa_cons (pv 0) (pa_cons (pv 4) (pa_cons (pv 7) pa_nil))))))) (fun _ _ _ _ _ => (pv 7)) (fun _ _ _ _ _ => (pe_dget (hu_of hr) (pv 3) (pv 7) (fun _ _ => rfl)))))
      (pss_cons (ps_if (PW.pt (pw_and (pt_cmpR (show OpR _ _ (rEqU K) from op_eqU hr) (pe_ix (show IxR _ (rIx K) from ix_seq) (pv 5) pe_int (fun _ _ => rfl)) pe_str (nomark _)) (pw_and (pt_cmpR (show OpR _ _ (rInU K) from op_inU hr) (pe_ix (show IxR _ (rIx K) from ix_seq) (pv 5) pe_int (fun _ _ => rfl)) (pv 3) (by rfl)) (pw_and1 (pt_cmpR (show OpR _ _ (rNotInU K) from op_notInU hr) (pe_ix (show IxR _ (rIx K) from ix_seq) (pv 5) pe_int (fun _ _ => rfl)) (pv 6) (by rfl)))))) (pss_one (ps_dput (hu_of hr) (pv 6) (pe_ix (show IxR _ (rIx K) from ix_seq) (pv 5) pe_int (fun _ _ => rfl)) (pe_op (show OpR _ _ (rAddU K) from op_addU) (pe_dget (hu_of hr) (pv 3) (pe_ix (show IxR _ (rIx K) from ix_seq) (pv 5) pe_int (fun _ _ => rfl)) (fun _ _ => rfl)) (pe_tup (pa_cons (pv 4) pa_nil))) rfl)) pss_nil)
      (pss_one (ps_set (i := 3) sc_ways_from.nd rfl (by first | exact Or.inl rfl | exact Or.inr rfl) (pv 6)))))))
      (pss_one (ps_ret (pv 3))))), fn_body (fun as Φ hs => ?_) vs H Q E h⟩
    obtain ⟨ps, es, k, n, e, rfl, op, oe, he, hp, hkn, h⟩ := hs
    have e40 := oe.few
    have n12 := op.n12
    have le : L2.atI (es.map evD) (k : Int) = some (evD e) := Z.atI_nat (by rw [List.getElem?_map, he]; rfl)
    have w0 : waysN es k 0 = [(pourAt e, [k])] := by unfold waysN; rw [he]
    refine ws_seq (ws_asg (we_disp1 ?_))
    refine we_op ?_
    refine we_op ?_
    refine we_fld ?_
    refine we_var rfl ?_
    refine ⟨_, _, _, rfl, T.K_Hall, T.n_events, rfl, ?_⟩
    refine we_var rfl ?_
    refine os_ix_tup le ?_
    refine we_int ?_
    have l2 : L2.atI (evL e) 2 = some (.str (pourAt e)) := by
      cases e with
      | pour => rfl
      | _ => cases hp
    refine os_ix_tup l2 ?_
    refine ⟨Sum.inr (pourAt e), rfl, ?_⟩
    refine we_tup ?_
    refine wa_cons ?_
    refine we_var rfl ?_
    refine wa_nil ?_
    refine ⟨by show 1 ≤ 100000; decide, _, rfl, ?_⟩
    refine ws_forU (fun i δ' => i ≤ n ∧ δ' = [some (.dat (hallD A ps es)), some (.dat (.int (k : Int))), some (.dat (.int ((k + n : Nat) : Int))), some (.dat (.dic (wD (waysN es k i)))), none, none, none, none]) ⟨_, ⟨Nat.zero_le _, rfl⟩, by rw [w0]; walk_at "zt"⟩ ?_
    refine wi_rng2 ?_
    refine wa_cons ?_
    refine we_op ?_
    refine we_var rfl ?_
    refine we_int ?_
    refine os_add_int ?_
    refine wa_cons ?_
    refine we_op ?_
    refine we_var rfl ?_
    refine we_int ?_
    refine os_add_int ?_
    refine wa_nil ?_
    refine ⟨_, _, rfl, by omega, fun i d δ0 hi hP => ?_, fun δ0 hP => ?_⟩
    · obtain ⟨hle, rfl⟩ := hP
      have hin : i < n := by
        have := (List.getElem?_eq_some_iff.mp hi).1
        rw [rangeD_len] at this
        omega
      obtain rfl : d = .int ((k + 1 + i : Nat) : Int) := by
        rw [rangeD_get (by omega)] at hi
        rw [← Option.some.inj hi]
        congr 1
        try omega
      have hxl : k + 1 + i < es.length := by omega
      obtain ⟨x, hx⟩ : ∃ x, es[k + 1 + i]? = some x := ⟨_, List.getElem?_eq_getElem hxl⟩
      have lx : L2.atI (es.map evD) ((k + 1 + i : Nat) : Int) = some (evD x) := Z.atI_nat (by rw [List.getElem?_map, hx]; rfl)
      have wo := waysN_ok oe he hp i
      have ws1 : waysN es k (i + 1) = wStep (hAt es (k + 1 + i)) x (k + 1 + i) (waysN es k i) := by rw [waysN]; rw [hx]
      have wo1 := waysN_ok oe he hp (i + 1)
      have wfew := wo.few
      rw [List.length_map] at wfew
      generalize waysN es k i = ws at *
      refine wg_name (ws_seq (ws_asg ?_))
      refine we_op ?_
      refine we_fld ?_
      refine we_var rfl ?_
      refine ⟨_, _, _, rfl, T.K_Hall, T.n_events, rfl, ?_⟩
      refine we_var rfl ?_
      refine os_ix_tup lx ?_
      refine ws_seq (ws_dcKeys (i := 3) rfl (by unfold wD; rw [List.length_map]; omega) (wr_name 7) (mono_name 7) (by simp) ⟨fun m acc => acc = wD ((ws.take m).filter fun q => isLeft (hAt es (k + 1 + i)) q.1 x), rfl, fun m key d acc hm hJ => ?_, fun acc hJ => ?_⟩)
      · subst hJ
        unfold wD at hm
        rw [List.getElem?_map] at hm
        obtain ⟨q, hq, e1⟩ := Option.map_eq_some_iff.mp hm
        obtain ⟨rfl, rfl⟩ := Prod.mk.inj e1
        have hqm := List.mem_of_getElem? hq
        refine wg_name (wt_B ?_)
        refine we_call ?_
        refine wa_cons ?_
        refine we_var rfl ?_
        refine wa_cons ?_
        refine we_var rfl ?_
        refine wa_cons ?_
        refine we_var rfl ?_
        refine wa_nil ?_
        refine ⟨ps, es, k + 1 + i, x, q.1, rfl, hx, wo.inn q hqm, _, rfl, fun c => ?_, fun c => ?_⟩
        · refine we_var rfl (we_dget (we_var rfl ⟨_, rfl, we_var rfl ⟨Sum.inr q.1, .tup (njD q.2), rfl, by rw [wD_val, wGet_nd wo.nd hqm]; rfl, Sum.inr q.1, rfl, ?_⟩⟩))
          show putD _ _ _ = wD ((ws.take (m + 1)).filter fun q => isLeft (hAt es (k + 1 + i)) q.1 x)
          rw [tk_snoc hq, List.filter_append, List.filter_cons_of_pos (by simpa using c), List.filter_nil, wD_put]
          intro hm2
          obtain ⟨r, hr, e2⟩ := List.mem_map.mp hm2
          have := nd_at wo.nd (i := m) (z := q.1) (by rw [List.getElem?_map, hq]; rfl)
          rw [← List.map_take] at this
          exact this (by rw [← e2]; exact List.mem_map_of_mem (f := (·.1)) (List.mem_filter.mp hr).1)
        · show wD _ = wD _
          rw [tk_snoc hq, List.filter_append, List.filter_cons_of_neg (by simpa using c), List.filter_nil, List.append_nil]
      · subst hJ
        rw [show (wD ws).length = ws.length by unfold wD; rw [List.length_map], List.take_length]
        generalize hlt : (ws.filter fun q => isLeft (hAt es (k + 1 + i)) q.1 x) = later
        have hlfew : later.length ≤ 12 := by
          rw [← hlt]
          exact Nat.le_trans (List.length_filter_le _ _) (by omega)
        refine ws_cut [some (.dat (hallD A ps es)), some (.dat (.int (k : Int))), some (.dat (.int ((k + n : Nat) : Int))), none, none, none, some (.ownD (wD (wStep (hAt es (k + 1 + i)) x (k + 1 + i) ws))), none] ?_ ?_
        · have hw : (∀ d p q n, x ≠ .move d p q n) → wStep (hAt es (k + 1 + i)) x (k + 1 + i) ws = later := fun ne => by
            rw [← hlt]
            cases x <;> first | rfl | exact absurd rfl (ne _ _ _ _)
          refine ws_if ?_
          cases x with
          | move d p q nn =>
            walk_at "zk"
            refine os_in_dic ?_
            rw [wD_some]
            cases g : wGet ws p with
            | none =>
              rw [decide_eq_false (wGet_none.mp g)]
              refine ⟨_, rfl, nofun, fun _ => ⟨nofun, fun _ => ws_next ?_⟩⟩
              refine ⟨_, rfl, ?_⟩
              rw [show wStep (hAt es (k + 1 + i)) (.move d p q nn) (k + 1 + i) ws = later by unfold wStep; dsimp only; rw [g]; exact hlt]
              walk_at "zt"
            | some w =>
              rw [decide_eq_true (show p ∈ ws.map (·.1) from List.mem_map.mpr ⟨_, wGet_mem g, rfl⟩)]
              refine ⟨_, rfl, fun _ => ?_, nofun⟩
              walk_at "zk"
              refine we_varD rfl (os_notIn_dic ?_)
              rw [wD_some]
              by_cases m : q ∈ later.map (·.1)
              · rw [decide_eq_true m]
                refine ⟨_, rfl, nofun, fun _ => ws_next ?_⟩
                refine ⟨_, rfl, ?_⟩
                rw [show wStep (hAt es (k + 1 + i)) (.move d p q nn) (k + 1 + i) ws = later by unfold wStep; dsimp only; rw [g]; dsimp only; rw [hlt, if_pos m]]
                walk_at "zt"
              · rw [decide_eq_false m]
                refine ⟨_, rfl, fun _ => ?_, nofun⟩
                refine ws_dput rfl (by unfold wD; rw [List.length_map]; omega) (we_op (we_dget (we_var rfl ⟨_, rfl, ?_⟩)))
                walk_at "zk"
                refine ⟨Sum.inr p, .tup (njD w), rfl, by rw [wD_val, g]; rfl, ?_⟩
                walk_at "zk"
                have wl := wo.len _ (wGet_mem g)
                refine os_catT (by rw [List.length_map]; simp at wl ⊢; omega) ?_
                walk_at "zk"
                refine ⟨Sum.inr q, rfl, ?_⟩
                rw [njD_snoc, wD_put m]
                refine ⟨_, rfl, ?_⟩
                rw [show wStep (hAt es (k + 1 + i)) (.move d p q nn) (k + 1 + i) ws = later ++ [(q, w ++ [k + 1 + i])] by unfold wStep; dsimp only; rw [g]; dsimp only; rw [hlt, if_neg m]]
                walk_at "zt"
          | _ =>
            rw [hw (by intros; nofun)]
            walk_at "zk"
        · refine ws_freeze 6 rfl (ws_asg (we_var rfl ?_))
          refine ⟨_, ⟨hin, rfl⟩, ?_⟩
          rw [ws1]
          walk_at "zt"
    · obtain ⟨hle, rfl⟩ := hP
      rw [rangeD_len]
      rw [show (((k + n : Nat) : Int) + 1 - ((k : Int) + 1)).toNat = n by omega]
      exact ws_ret (we_var rfl h)
  case len => obtain ⟨a, b, c, d, e, rfl, _⟩ := h; rfl
end
end T25

namespace T25
open PySem PySem.Spec PyProof.Rows L2 Z
theorem perm_rep {K : PySem.W.Frag} {M W : AS} {H : Hp} (vs : List V) (as : List AV) (h : RepAs K M W H vs as) : RepAs K M W H (permW [] vs) (permW [] as) := by
  have sw : ∀ {v : V} {vs : List V} {x : AV} {xs : List AV}, RepAs K M W H (v :: vs) (x :: xs) → (∀ {us ys}, RepAs K M W H us ys → RepAs K M W H (v :: us) (x :: ys)) ∧ RepAs K M W H vs xs := fun h => by
    cases h with
    | dat r t => exact ⟨fun q => .dat r q, t⟩
    | well r t => exact ⟨fun q => .well r q, t⟩
  have hl := h.length
  rcases vs with _ | ⟨a, _ | ⟨b, _ | ⟨c, _ | ⟨d, _ | ⟨e, r⟩⟩⟩⟩⟩ <;> rcases as with _ | ⟨a', _ | ⟨b', _ | ⟨c', _ | ⟨d', _ | ⟨e', r'⟩⟩⟩⟩⟩
  all_goals first | exact RepAs.nil | (exfalso; simp at hl; done) | (exfalso; simp at hl; omega) | skip
  obtain ⟨f1, h1⟩ := sw h
  obtain ⟨f2, h2⟩ := sw h1
  obtain ⟨f3, h3⟩ := sw h2
  obtain ⟨f4, h4⟩ := sw h3
  exact f3 (f4 (f1 (f2 .nil)))
section
variable {P : Program} {w : World} {K : PySem.W.Frag} {mg : Str → Option Value} {base : Heap} {A : Adr}
variable {B : Z.Act} {M : AS} {H : Hp} {σ : L2.St} {δ : Sl} {te : TE} {u : TS} {De : Ends} {Φ : D → Prop}
theorem drop_at (h : Z.WE K false te δ Φ) (S : Sat K B M H σ δ) (k : ∀ H', Z.Fr B.W H H' → u De σ H') : tSeq (tDrop te) u De σ H := h B M H σ S _ fun v H' d f r p => k H' f
theorem if_at {tt : TT} {Ψ : Bool → Prop} (h : WT K tt δ fun c => c = true → Z.WE K false te δ Φ) (S : Sat K B M H σ δ) (k : ∀ H', Z.Fr B.W H H' → u De σ H') : tSeq (tIfS tt (tDrop te) tNext) u De σ H := h B M H σ S _ fun c H1 f1 hc => by
  cases c with
  | true => exact hc rfl B M H1 σ (S.step f1) _ fun v H' d f r p => k H' (f1.trans f)
  | false => exact k H1 f1
/-- an object of one's own that no slot owns changes -/
theorem sat_upd1 (S : Sat K B M H σ δ) {p : Addr} {o : HO} (hm : M p) (hg : B.G p = none) (hx : H p ≠ none) (no : ∀ (i : Nat) (av : AV), δ[i]? = some (some av) → isOwn av = false) : Sat K B M (upd H p o) σ δ := by
  have hw : ¬ B.W p := fun w => S.g0 p (S.w0 p w) hg
  have mv : Mv M H M (upd H p o) := fun a n h => ⟨Kp.of fun o e => by rw [upd_ne (fun z : a = p => n (by rw [z]; exact hm))]; exact e, n⟩
  refine ⟨fun i av e => ?_, S.dis, S.len, fun a m => ?_, S.m0, S.w0, S.g0, fun a w => ?_, S.welG, S.fr.upd hg hw⟩
  · obtain ⟨v, h1, h2⟩ := S.slot i av e
    refine ⟨v, h1, ?_⟩
    have := no i av e
    cases av with
    | dat d => exact Rep.mv mv h2
    | well => exact h2
    | own xs => cases this
    | ownD xs => cases this
  · by_cases hp : a = p
    · rw [hp, upd_same]; intro z; cases z
    · rw [upd_ne hp]; exact S.trk a m
  · obtain ⟨x, y, z, q, r⟩ := S.wel a w
    exact ⟨x, y, z, by rw [upd_ne (fun q : a = p => hw (by rw [← q]; exact w))]; exact q, r⟩
theorem repF_app {f : Str} {v : V} {d : D} (r : Rep K M H v d) : ∀ {vs : List (Str × V)} {ds : List (Str × D)}, RepF K M H vs ds → RepF K M H (vs ++ [(f, v)]) (ds ++ [(f, d)])
  | _, _, .nil => .cons r .nil
  | _, _, .cons h t => .cons h (repF_app r t)
theorem putF_new {f : Str} {v : V} : ∀ {fs : List (Str × V)}, (∀ q ∈ fs, q.1 ≠ f) → putF f v fs = fs ++ [(f, v)]
  | [], _ => rfl
  | (g, x) :: r, h => by
    show (if g = f then _ else (g, x) :: putF f v r) = _
    rw [if_neg (h (g, x) List.mem_cons_self), putF_new fun q hq => h q (List.mem_cons_of_mem _ hq)]
    rfl
/-- an instance being made -/
structure InsAt (K : PySem.W.Frag) (M : AS) (H : Hp) (x C dx : Addr) (fs : List (Str × V)) (ds : List (Str × D)) : Prop where
  at_ : H x = some (.ins C dx fs)
  rep : RepF K M H fs ds
theorem repF_names : ∀ {vs : List (Str × V)} {ds : List (Str × D)}, RepF K M H vs ds → vs.map (·.1) = ds.map (·.1)
  | _, _, .nil => rfl
  | _, _, .cons _ r => by have := repF_names r; simp [this]
theorem fld_at {x C dx : Addr} {fs : List (Str × V)} {ds : List (Str × D)} {f : Str} (S : Sat K B M H σ δ) (hs : σ[0]? = some (some (.ref x))) (I : InsAt K M H x C dx fs ds) (hm : M x) (hg : B.G x = none) (hw : ∀ a, B.W a → M a) (no : ∀ (i : Nat) (av : AV), δ[i]? = some (some av) → isOwn av = false)
    (cl : Cls K C) (na : NoAttr K C f) (ns : List Str) (hns : ds.map (·.1) = ns) (nf : ns.contains f = false) (few : ns.length < 1000) (h : Z.WE K true te δ Φ)
    (k : ∀ v H' d, Φ d → Sat K B M H' σ δ → InsAt K M H' x C dx (fs ++ [(f, v)]) (ds ++ [(f, d)]) → u De σ H') : tSeq (sFld K (tVar 0) te f) u De σ H :=
  h B M H σ S _ fun v H1 d f1 r1 p => by
    have S1 := S.step f1
    have nW : ¬ B.W x := fun w => S.g0 x (S.w0 x w) hg
    have hx1 : H1 x = some (.ins C dx fs) := f1.kp x _ nW I.at_
    have rf1 : RepF K M H1 fs ds := RepF.mv (f1.mv hw) I.rep
    have lf : fs.length = ds.length := by
      have := congrArg List.length (repF_names rf1)
      rw [List.length_map, List.length_map] at this
      exact this
    refine ⟨_, hs, x, C, dx, fs, rfl, hx1, cl, na, by rw [lf, ← List.length_map (f := (·.1)), hns]; exact few, ?_⟩
    have nin : ∀ q ∈ fs, q.1 ≠ f := fun q hq e => by
      have h1 : q.1 ∈ fs.map (·.1) := List.mem_map_of_mem (f := (·.1)) hq
      rw [(repF_names rf1), e] at h1
      have := List.contains_iff_mem.mpr h1
      rw [hns, nf] at this
      cases this
    rw [putF_new nin]
    have mv : Mv M H1 M (upd H1 x (.ins C dx (fs ++ [(f, v)]))) := fun a n h => ⟨Kp.of fun o e => by rw [upd_ne (fun z : a = x => n (by rw [z]; exact hm))]; exact e, n⟩
    exact k v _ d p (sat_upd1 S1 hm hg (by rw [hx1]; intro z; cases z) no) ⟨upd_same, repF_app (Rep.mv mv r1) (RepF.mv mv rf1)⟩

def S_need_link : List AV → (D → Prop) → Prop := fun as Φ => ∃ ps es z, ∃ k n : Nat, ∃ e : Ev, as = [.dat (hallD A ps es), .dat (.int ((k + n : Nat) : Int)), .dat (.str z), .dat (.int (k : Int))] ∧ z ∈ ps.map (·.1) ∧ es[k]? = some e ∧ e.isPour = true ∧ k + n < es.length ∧ Φ .non
theorem ok_need_link (T : Txt K mg A w) : FnOk P w K mg base CX0 5 A.f_need_link A.d_need_link ["hall", "event", "place", "pour"] (spA K (S_need_link (A := A))) := by
  have G_need_event := ok_need_event (P := P) (w := w) (base := base) T
  have G_need_hall := ok_need_hall (P := P) (w := w) (base := base) T
  have G_need_place := ok_need_place (P := P) (w := w) (base := base) T
  have G_need_pour := ok_need_pour (P := P) (w := w) (base := base) T
  refine T.F_need_link.ok sc_need_link (fun vs H Q E h => spA_len h fun as Φ h => ?len) (fun cdv Ar outer s H vs Q E hr h => ?body)
  case body =>
    have hr_need_event := hr.mono (k := _) (j := _) (by decide : 4 ≤ 4)
    have hr_need_hall := hr.mono (k := _) (j := _) (by decide : 1 ≤ 4)
    have hr_need_place := hr.mono (k := _) (j := _) (by decide : 1 ≤ 4)
    have hr_need_pour := hr.mono (k := _) (j := _) (by decide : 3 ≤ 4)
    refine ⟨_, (pss_cons (ps_expr (pe_call G_need_hall hr_need_hall rfl T.m_need_hall T.F_need_hall.kp T.b_need_hall .nil pass0 (pa_cons (pv 0) pa_nil)))
      (pss_cons (ps_expr (pe_call G_need_event hr_need_event rfl T.m_need_event T.F_need_event.kp T.b_need_event .nil pass0 (pa_cons (pv 0) (pa_cons (pv 1) pa_nil))))
      (pss_cons (ps_expr (pe_call G_need_place hr_need_place rfl T.m_need_place T.F_need_place.kp T.b_need_place .nil pass0 (pa_cons (pv 0) (pa_cons (pv 2) pa_nil))))
      (pss_cons (ps_expr (pe_call G_need_pour hr_need_pour rfl T.m_need_pour T.F_need_pour.kp T.b_need_pour .nil pass0 (pa_cons (pv 0) (pa_cons (pv 3) pa_nil))))
      (pss_one (ps_if (pt_cmpR op_gt (pv 3) (pv 1) (nomark _)) (pss_one ps_never) pss_nil)))))), fn_body (fun as Φ hs => ?_) vs H Q E h⟩
    obtain ⟨ps, es, z, k, n, e, rfl, hz, he, hp, hkn, h⟩ := hs
    refine ws_seq (ws_drop (we_call (wa_cons (we_var rfl (wa_nil ⟨ps, es, rfl, ?_⟩)))))
    refine ws_seq (ws_drop (we_call (wa_cons (we_var rfl (wa_cons (we_var rfl (wa_nil ⟨ps, es, _, rfl, by omega, by omega, ?_⟩)))))))
    refine ws_seq (ws_drop (we_call (wa_cons (we_var rfl (wa_cons (we_var rfl (wa_nil ⟨ps, es, z, rfl, hz, ?_⟩)))))))
    refine ws_seq (ws_drop (we_call (wa_cons (we_var rfl (wa_cons (we_var rfl (wa_nil ⟨ps, es, k, e, rfl, he, hp, ?_⟩)))))))
    refine ws_if (wt_test ?_)
    refine we_op ?_
    refine we_var rfl ?_
    refine we_var rfl ?_
    refine os_gt ?_
    exact ⟨_, rfl, fun e => by have := of_decide_eq_true e; omega, fun _ => ws_next h⟩
  case len => obtain ⟨a, b, c, d, e, f, rfl, _⟩ := h; rfl
structure LkOk (ps : Pl) (es : List Ev) (z : Str) (k n : Nat) : Prop where
  op : OkP ps
  oe : OkEs (ps.map (·.1)) es
  hz : z ∈ ps.map (·.1)
  pr : ∃ e, es[k]? = some e ∧ e.isPour = true
  lt : k + n < es.length
def S_is_linked : List AV → (D → Prop) → Prop := fun as Φ => ∃ ps es z, ∃ k n : Nat, as = [.dat (hallD A ps es), .dat (.int ((k + n : Nat) : Int)), .dat (.str z), .dat (.int (k : Int))] ∧ LkOk ps es z k n ∧ Φ (.bl (decide (z ∈ (waysN es k n).map (·.1))))
theorem ok_is_linked (T : Txt K mg A w) : FnOk P w K mg base CX0 6 A.f_is_linked A.d_is_linked ["hall", "event", "place", "pour"] (spA K (S_is_linked (A := A))) := by
  have G_need_link := ok_need_link (P := P) (w := w) (base := base) T
  have G_ways_from := ok_ways_from (P := P) (w := w) (base := base) T
  refine T.F_is_linked.ok sc_is_linked (fun vs H Q E h => spA_len h fun as Φ h => ?len) (fun cdv Ar outer s H vs Q E hr h => ?body)
  case body =>
    have hr_need_link := hr.mono (k := _) (j := _) (by decide : 5 ≤ 5)
    have hr_ways_from := hr.mono (k := _) (j := _) (by decide : 2 ≤ 5)
    refine ⟨_, (pss_cons (ps_expr (pe_call G_need_link hr_need_link rfl T.m_need_link T.F_need_link.kp T.b_need_link .nil pass0 (pa_cons (pv 0) (pa_cons (pv 1) (pa_cons (pv 2) (pa_cons (pv 3) pa_nil))))))
      (pss_one (ps_ret (pe_cmpR (show OpR _ _ (rInU K) from op_inU hr) (pv 2) (pe_call G_ways_from hr_ways_from rfl T.m_ways_from T.F_ways_from.kp T.b_ways_from .nil pass0 (pa_cons (pv 0) (pa_cons (pv 3) (pa_cons (pv 1) pa_nil)))) (by rfl))))), fn_body (fun as Φ hs => ?_) vs H Q E h⟩
    obtain ⟨ps, es, z, k, n, rfl, ⟨op, oe, hz, ⟨e, he, hp⟩, lt⟩, h⟩ := hs
    refine ws_seq (ws_drop ?_)
    refine we_call ?_
    refine wa_cons ?_
    refine we_var rfl ?_
    refine wa_cons ?_
    refine we_var rfl ?_
    refine wa_cons ?_
    refine we_var rfl ?_
    refine wa_cons ?_
    refine we_var rfl ?_
    refine wa_nil ?_
    refine ⟨ps, es, z, k, n, e, rfl, hz, he, hp, lt, ws_ret ?_⟩
    refine we_op ?_
    refine we_var rfl ?_
    refine we_call ?_
    refine wa_cons ?_
    refine we_var rfl ?_
    refine wa_cons ?_
    refine we_var rfl ?_
    refine wa_cons ?_
    refine we_var rfl ?_
    refine wa_nil ?_
    refine ⟨ps, es, k, n, e, rfl, op, oe, he, hp, lt, os_in_dic ?_⟩
    rw [wD_some]
    exact h
  case len => obtain ⟨a, b, c, d, e, rfl, _⟩ := h; rfl
def wayD (ws : Ws) (z : Str) : D := match wGet ws z with
  | some w => .tup (njD w)
  | none => .non
def S_way : List AV → (D → Prop) → Prop := fun as Φ => ∃ ps es z, ∃ k n : Nat, as = [.dat (hallD A ps es), .dat (.int ((k + n : Nat) : Int)), .dat (.str z), .dat (.int (k : Int))] ∧ LkOk ps es z k n ∧ Φ (wayD (waysN es k n) z)
theorem ok_way (T : Txt K mg A w) : FnOk P w K mg base CX0 6 A.f_way A.d_way ["hall", "event", "place", "pour"] (spA K (S_way (A := A))) := by
  have G_need_link := ok_need_link (P := P) (w := w) (base := base) T
  have G_ways_from := ok_ways_from (P := P) (w := w) (base := base) T
  refine T.F_way.ok sc_way (fun vs H Q E h => spA_len h fun as Φ h => ?len) (fun cdv Ar outer s H vs Q E hr h => ?body)
  case body =>
    have hr_need_link := hr.mono (k := _) (j := _) (by decide : 5 ≤ 5)
    have hr_ways_from := hr.mono (k := _) (j := _) (by decide : 2 ≤ 5)
    refine ⟨_, (pss_cons (ps_expr (pe_call G_need_link hr_need_link rfl T.m_need_link T.F_need_link.kp T.b_need_link .nil pass0 (pa_cons (pv 0) (pa_cons (pv 1) (pa_cons (pv 2) (pa_cons (pv 3) pa_nil))))))
      (pss_one (ps_ret (pe_dget2 (hu_of hr) (pe_call G_ways_from hr_ways_from rfl T.m_ways_from T.F_ways_from.kp T.b_ways_from .nil pass0 (pa_cons (pv 0) (pa_cons (pv 3) (pa_cons (pv 1) pa_nil)))) (pv 2) pe_non ⟨rfl, rfl, rfl, rfl⟩)))), fn_body (fun as Φ hs => ?_) vs H Q E h⟩
    obtain ⟨ps, es, z, k, n, rfl, ⟨op, oe, hz, ⟨e, he, hp⟩, lt⟩, h⟩ := hs
    refine ws_seq (ws_drop ?_)
    refine we_call ?_
    refine wa_cons ?_
    refine we_var rfl ?_
    refine wa_cons ?_
    refine we_var rfl ?_
    refine wa_cons ?_
    refine we_var rfl ?_
    refine wa_cons ?_
    refine we_var rfl ?_
    refine wa_nil ?_
    refine ⟨ps, es, z, k, n, e, rfl, hz, he, hp, lt, ws_ret (we_dget2 ?_)⟩
    refine we_call ?_
    refine wa_cons ?_
    refine we_var rfl ?_
    refine wa_cons ?_
    refine we_var rfl ?_
    refine wa_cons ?_
    refine we_var rfl ?_
    refine wa_nil ?_
    refine ⟨ps, es, k, n, e, rfl, op, oe, he, hp, lt, _, rfl, we_var rfl ⟨Sum.inr z, rfl, we_non ?_⟩⟩
    rw [wD_val]
    unfold wayD at h
    cases g : wGet (waysN es k n) z with
    | none => rw [g] at h; exact h
    | some w => rw [g] at h; exact h
  case len => obtain ⟨a, b, c, d, e, rfl, _⟩ := h; rfl
/-- what the making of a hall promises -/
def spHI (K : PySem.W.Frag) (A : Adr) : Sp := fun vs H Q _ => ∃ (ps : Pl) (es : List Ev) (x dx : Addr) (v1 v2 : V) (M W : AS) (H0 : Hp), vs = [.ref x, v1, v2] ∧ St0 M W H0 ∧ RepL K M H0 [v1, v2] [.tup (ps.map pD), .tup (es.map evD)] ∧ OkP ps ∧ OkEs (ps.map (·.1)) es ∧
  H0 x = none ∧ H0 dx = none ∧ dx ≠ x ∧ H = upd (upd H0 dx (.own x)) x (.ins A.C_Hall dx []) ∧ ∀ H', Z.Fr W H0 H' → Rep K M H' (.ref x) (hallD A ps es) → Q .non H'
theorem ok_Hall_init (T : Txt K mg A w) : FnOk P w K mg base CX0 7 A.f_Hall_init A.d_Hall_init ["self", "places", "events"] (spHI K A) := by
  have G_check_places := ok_check_places (P := P) (w := w) (base := base) T
  have G_held_rows := ok_held_rows (P := P) (w := w) (base := base) T
  refine T.F_Hall_init.ok sc_Hall_init (fun vs H Q E h => ?len) (fun cdv Ar outer s H vs Q E hr h => ?body)
  case len => obtain ⟨_, _, _, _, _, _, _, _, _, rfl, _⟩ := h; rfl
  case body =>
    have hr_check_places := hr.mono (k := _) (j := _) (by decide : 4 ≤ 6)
    have hr_held_rows := hr.mono (k := _) (j := _) (by decide : 6 ≤ 6)
    refine ⟨_, (pss_cons (ps_expr (pe_call G_check_places hr_check_places rfl T.m_check_places T.F_check_places.kp T.b_check_places .nil pass0 (pa_cons (pv 1) pa_nil)))
      (pss_cons (ps_fld (pv 0) (pe_call G_held_rows hr_held_rows rfl T.m_held_rows T.F_held_rows.kp T.b_held_rows .nil pass0 (pa_cons (pv 1) (pa_cons (pv 2) pa_nil))) rfl)
      (pss_cons (ps_fld (pv 0) (pv 1) rfl)
      (pss_cons (ps_fld (pv 0) (pv 2) rfl)
      (pss_cons (ps_fld (pv 0) (pe_tup (pa_cons (pv 1) (pa_cons (pv 2) pa_nil))) rfl)
      (pss_one (ps_fld (pv 0) (pe_dc (own := [("name", 3), ("label", 4)]) rfl sc_Hall_init.nd (pi_tup (pv 1)) (blkOk_by (N := ["self", "places", "events", "name", "label"]) (sc := defScope s_Hall_init) (by decide +kernel)) (fun _ _ _ _ _ => (show PG _ _ (gTup K _ _) from pg_tup (n := 2) rfl (pgs_cons (pg_name (i := 3) sc_Hall_init.nd rfl (by first | exact Or.inl rfl | exact Or.inr rfl)) (pgs_cons (pg_name (i := 4) sc_Hall_init.nd rfl (by first | exact Or.inl rfl | exact Or.inr rfl)) pgs_nil)))) (fun _ _ _ _ _ => pts_nil) (fun _ _ _ _ _ => (pv 3)) (fun _ _ _ _ _ => (pv 4))) rfl)))))))
, ?_⟩
    obtain ⟨ps, es, x, dx, v1, v2, M, W, H0, rfl, st, rl, op, oe, hx, hdx, hne, rfl, k⟩ := h
    have n12 := op.n12
    cases rl with
    | cons r1 rl => cases rl with
    | cons r2 rl =>
      cases rl
      have nMx : ¬ M x := fun m => st.2.1 x m hx
      have nMd : ¬ M dx := fun m => st.2.1 dx m hdx
      have nWx : ¬ W x := fun w => nMx (st.1 x w)
      have nWd : ¬ W dx := fun w => nMd (st.1 dx w)
      have fr1 : Z.Fr W H0 (upd (upd H0 dx (.own x)) x (.ins A.C_Hall dx [])) := (Z.Fr.new hdx nWd).trans (Z.Fr.new (by rw [upd_ne hne.symm]; exact hx) nWx)
      let M1 : AS := grow M x
      let B : Z.Act := ⟨M, W, H0⟩
      have mv0 : Mv M H0 M1 (upd (upd H0 dx (.own x)) x (.ins A.C_Hall dx [])) := fun a n h => ⟨Kp.of fun o e => fr1.kp a o (fun w => n (st.1 a w)) e, fun m => m.elim n fun e => h (by rw [e]; exact hx)⟩
      let σ0 : L2.St := [some (.ref x), some v1, some v2, none, none]
      let δ0 : Sl := [none, some (.dat (.tup (ps.map pD))), some (.dat (.tup (es.map evD))), none, none]
      have no : ∀ (i : Nat) (av : AV), δ0[i]? = some (some av) → isOwn av = false := fun i av e => by
        match i, e with
        | 0, e => cases e
        | 1, e => cases e; rfl
        | 2, e => cases e; rfl
        | 3, e => cases e
        | 4, e => cases e
        | i + 5, e => simp [δ0] at e
      have S0 : Sat K B M1 (upd (upd H0 dx (.own x)) x (.ins A.C_Hall dx [])) σ0 δ0 := by
        refine ⟨fun i av e => ?_, fun i j av bv a hne' ei ej oi oj _ _ => (by rw [no i av ei] at oi; cases oi), rfl, fun a m => ?_, fun a m => .inl m, st.1, st.2.1, fun a w => fr1.wl a w (st.2.2 a w), st.2.2, fr1⟩
        · match i, e with
          | 0, e => cases e
          | 1, e => cases e; exact ⟨v1, rfl, Rep.mv mv0 r1⟩
          | 2, e => cases e; exact ⟨v2, rfl, Rep.mv mv0 r2⟩
          | 3, e => cases e
          | 4, e => cases e
          | i + 5, e => simp [δ0] at e
        · rcases m with m | e
          · exact fr1.ex st.2.2 (st.2.1 a m)
          · rw [e, upd_same]; intro z; cases z
      have I0 : InsAt K M1 (upd (upd H0 dx (.own x)) x (.ins A.C_Hall dx [])) x A.C_Hall dx [] [] := ⟨upd_same, .nil⟩
      have hwM : ∀ a, B.W a → M1 a := fun a w => .inl (st.1 a w)
      have Istep : ∀ {H1 H2 : Hp} {fs : List (Str × V)} {ds : List (Str × D)}, InsAt K M1 H1 x A.C_Hall dx fs ds → Z.Fr W H1 H2 → InsAt K M1 H2 x A.C_Hall dx fs ds := fun I f => ⟨f.kp x _ nWx I.at_, RepF.mv (f.mv hwM) I.rep⟩
      refine drop_at (δ := δ0) (Φ := fun _ => True) (we_call (wa_cons (we_var rfl (wa_nil ⟨ps, rfl, op, trivial⟩)))) S0 fun H1 f1 => ?_
      have S1 := S0.step f1
      have I1 := Istep I0 f1
      have gx : B.G x = none := hx
      refine fld_at (δ := δ0) S1 rfl I1 (.inr rfl) gx hwM no T.K_Hall T.n_held [] rfl (by decide +kernel) (by decide) (we_call (Φ := fun d => d = .tup (rowsD ps es es.length)) (wa_cons (we_var rfl (wa_cons (we_var rfl (wa_nil ⟨ps, es, rfl, op, oe, rfl⟩)))))) fun u1 H5 d e S5 I5 => ?_
      subst e
      refine fld_at (δ := δ0) S5 rfl I5 (.inr rfl) gx hwM no T.K_Hall T.n_places ["held"] rfl (by decide +kernel) (by decide) (we_var (Φ := fun d => d = .tup (ps.map pD)) rfl rfl) fun u2 H6 d e S6 I6 => ?_
      subst e
      refine fld_at (δ := δ0) S6 rfl I6 (.inr rfl) gx hwM no T.K_Hall T.n_events ["held", "places"] rfl (by decide +kernel) (by decide) (we_var (Φ := fun d => d = .tup (es.map evD)) rfl rfl) fun u3 H7 d e S7 I7 => ?_
      subst e
      refine fld_at (δ := δ0) S7 rfl I7 (.inr rfl) gx hwM no T.K_Hall T.n_parts ["held", "places", "events"] rfl (by decide +kernel) (by decide) (we_tup (Φ := fun d => d = .tup [.tup (ps.map pD), .tup (es.map evD)]) (wa_cons (we_var rfl (wa_cons (we_var rfl (wa_nil ⟨(by show 2 ≤ 100000; decide), _, rfl, rfl⟩)))))) fun u4 H8 d e S8 I8 => ?_
      subst e
      show tSeq (sFld K (tVar 0) (tDc (iTup K (tVar 1)) (gTup K 2 (gCons (gName 3) (gCons (gName 4) gNil))) (fun _ H Q => Q true H) (tVar 3) (tVar 4) [3, 4]) "tags") tNext { nx := fun x H' => Q V.non H', rt := Q } σ0 H8
      refine fld_at (u := tNext) (δ := δ0) S8 rfl I8 (.inr rfl) gx hwM no T.K_Hall T.n_tags ["held", "places", "events", "parts"] rfl (by decide +kernel) (by decide) (we_dc (Φ := fun d => d = .dic (ps.map fun q => ((Sum.inr q.1 : Key), D.str q.2))) (vs := [3, 4]) (wr_name2 3 4) (mono_name2 3 4) (by simp) (wi_tup (we_var (i := 1) rfl ⟨ps.map pD, rfl, by rw [List.length_map]; omega, fun i acc => acc = (ps.take i).map fun q => ((Sum.inr q.1 : Key), D.str q.2), rfl, fun i d acc hi hJ => ?_, fun acc hJ => ?_⟩))) fun u5 H9 d e S9 I9 => ?_
      · subst hJ
        obtain ⟨q, hq, rfl⟩ := map_at hi
        refine wg_tup rfl (wgs_cons (wg_name (wgs_cons (wg_name (wgs_nil (wt_true ⟨fun _ => we_var rfl (we_var rfl ⟨Sum.inr q.1, rfl, ?_⟩), nofun⟩))))))
        rw [put_new (fun q : Str × Str => q.1) (fun q => D.str q.2) (a := q) (by rw [List.map_take]; exact nd_at op.nd (by rw [List.getElem?_map, hq]; rfl)), ← tk_snoc hq]
      · subst hJ
        rw [List.length_map, List.take_length]
      subst e
      have f9 : Z.Fr W H0 H9 := S9.fr
      have ix9 := I9.at_
      show Q .non H9
      refine k H9 f9 ?_
      have mvE : Mv M1 H9 M H9 := fun a n h => ⟨Kp.of fun o e => e, fun m => n (.inl m)⟩
      exact .ins ix9 nMx (RepF.mv mvE I9.rep)
theorem we_make {b : Bool} {δ : Sl} {Φ : D → Prop} {E : XK} {ta : TA} (h : WA K b ta δ fun as => ∃ (ps : Pl) (es : List Ev), as = [.dat (.tup (ps.map pD)), .dat (.tup (es.map evD))] ∧ OkP ps ∧ OkEs (ps.map (·.1)) es ∧ Φ (hallD A ps es)) :
    Z.WE K b (tMake A.C_Hall (spHI K A) [] E ta) δ Φ := fun B M H σ S Q q =>
  h B M H σ S _ fun vs H1 as f1 ra ⟨ps, es, e, op, oe, hp⟩ x dx hx hdx hne => by
    subst e
    rw [List.append_nil]
    have rl := datas_rep ra rfl
    cases rl with
    | cons r1 rl => cases rl with
    | cons r2 rl =>
      cases rl
      exact ⟨ps, es, x, dx, _, _, Y B M b, B.W, H1, rfl, (S.step f1).st0, .cons r1 (.cons r2 .nil), op, oe, hx, hdx, hne, rfl, fun H' f r => ⟨rfl, q _ H' _ (f1.trans f) r hp⟩⟩
end
end T25

namespace T25
open PySem PySem.Spec PyProof.Rows L2 Z
theorem ixl {K : PySem.W.Frag} {H : Hp} {a : Addr} {xs : List V} {i : Int} {v : V} {Q : VK} (ha : H a = some (.lst xs)) (e : L2.atI xs i = some v) (q : Q v H) : rIx K (.ref a) (.int i) H Q := .inl ⟨a, xs, i, v, rfl, rfl, .inl (.inl ha), e, q⟩
theorem fr_well {W : AS} {H : Hp} {a : Addr} {x y z : Int} (w : W a) (hx : 0 ≤ x) (hx2 : x ≤ x) (hy : 0 ≤ y) (hy2 : y < 2147483648) (hz : 0 ≤ z) {H0 : Hp} (f : Z.Fr W H0 H) : Z.Fr W H0 (upd H a (.lst [.int x, .int y, .int z])) :=
  ⟨fun b o n e => by rw [upd_ne (fun q : b = a => n (q ▸ w))]; exact f.kp b o n e, fun b wb q => by
    by_cases c : b = a
    · subst c
      exact ⟨x, y, z, upd_same, hx, hx2, hy, hy2, hz⟩
    · obtain ⟨x', y', z', e, r⟩ := f.wl b wb q
      exact ⟨x', y', z', by rw [upd_ne c]; exact e, r⟩⟩
theorem joinL_one : ∀ cs : List Nat, TL.joinL [] (cs.map fun c => [c]) = cs
  | [] => rfl
  | [c] => rfl
  | c :: d :: r => by
    have ih := joinL_one (d :: r)
    show [c] ++ ([] ++ TL.joinL [] ((d :: r).map fun c => [c])) = _
    rw [ih]; rfl
theorem join_cs (cs : List Nat) : Txt.join ("" : Str) (cs.map fun c => (⟨#[c]⟩ : Str)) = ⟨cs.toArray⟩ := by
  have := SX.join_S [] (cs.map fun c => [c])
  rw [joinL_one, List.map_map] at this
  exact this
/-- letters, not too many -/
def preName (z : Str) : Bool := decide (1 ≤ z.length) && decide (z.length ≤ 8) && z.cps.toList.all fun c => decide (97 ≤ c) && decide (c ≤ 122)
theorem good_of {z : Str} (h : preName z = true) (hn : z ∉ l_WORDS) : GoodName z := by
  unfold preName at h
  simp only [Bool.and_eq_true, decide_eq_true_eq, List.all_eq_true] at h
  exact ⟨h.1.1, h.1.2, fun c hc => h.2 c hc, hn⟩
theorem pre_cs {cs : List Nat} (h1 : 1 ≤ cs.length) (h8 : cs.length ≤ 8) (h : ∀ c ∈ cs, 97 ≤ c ∧ c ≤ 122) : preName ⟨cs.toArray⟩ = true := by
  unfold preName
  simp only [Bool.and_eq_true, decide_eq_true_eq, List.all_eq_true]
  exact ⟨⟨h1, h8⟩, fun c hc => h c hc⟩
theorem letter_at : ∀ i : Fin 26, (("abcdefghijklmnopqrstuvwxyz" : Str)).cps.toList[i.val]? = some (97 + i.val) := by decide +kernel
theorem letters_len : (("abcdefghijklmnopqrstuvwxyz" : Str)).cps.toList.length = 26 := by decide +kernel

theorem nd_snoc {α : Type} {xs : List α} {x : α} (h : xs.Nodup) (hx : x ∉ xs) : (xs ++ [x]).Nodup := List.nodup_append.mpr ⟨h, by simp, fun a ha b hb e => by simp at hb; subst hb; subst e; exact hx ha⟩
def l_common : List Str := ["bad", "may", "clear", "left", "free", "sure", "toe", "pours", "a", "z", "fits", "never"]
theorem common_ok : l_common.all preName = true := by decide +kernel
def l_oth1 : List Str := (List.range 8).map fun j => ⟨(List.replicate (1 + j) 113).toArray⟩
def l_oth2 : List Str := (List.range 7).map fun j => ("jx" : Str) ++ ⟨(List.replicate j 107).toArray⟩
def l_oth3 : List Str := (List.range 7).map fun j => ("vv" : Str) ++ ⟨(List.replicate j 119).toArray⟩
def l_oth : List Str := l_oth1 ++ l_oth2 ++ l_oth3
theorem oth_nd : l_oth.Nodup := by decide +kernel
theorem oth_len : l_oth.length = 22 := by decide +kernel
theorem oth_ok : l_oth.all (fun z => preName z && !decide (z ∈ l_WORDS)) = true := by decide +kernel
theorem way_at : ∀ w : _root_.Fin 6, ∃ m : Nat, [1, 1, 2, 4, 8, 3][w.val]? = some m ∧ 1 ≤ m ∧ m ≤ 8 := by
  intro w
  match w with
  | ⟨0, _⟩ => exact ⟨1, rfl, by decide, by decide⟩
  | ⟨1, _⟩ => exact ⟨1, rfl, by decide, by decide⟩
  | ⟨2, _⟩ => exact ⟨2, rfl, by decide, by decide⟩
  | ⟨3, _⟩ => exact ⟨4, rfl, by decide, by decide⟩
  | ⟨4, _⟩ => exact ⟨8, rfl, by decide, by decide⟩
  | ⟨5, _⟩ => exact ⟨3, rfl, by decide, by decide⟩
theorem os_mulL {K : PySem.W.Frag} {Φ : D → Prop} {c : Nat} {z : Str} {n : Nat} (hz : z = ⟨#[c]⟩) (h1 : n ≤ 1000) (h : Φ (.str ⟨(List.replicate n c).toArray⟩)) : OpS K rMulS (.str z) (.int (n : Int)) Φ := by
  subst hz
  refine os_mulS (by omega) (by omega) ?_
  rw [show ((n : Nat) : Int).toNat = n by omega]
  exact h
theorem rep_len (n c : Nat) : ((⟨(List.replicate n c).toArray⟩ : Str)).length = n := by
  show (List.replicate n c).toArray.size = n
  simp
theorem str_inj {a b : Str} (h : a.cps.toList = b.cps.toList) : a = b := by
  obtain ⟨x⟩ := a
  obtain ⟨y⟩ := b
  have : x = y := Array.toList_inj.mp h
  rw [this]
theorem lt_of_not {a b : Str} (h : ¬ b.cps.toList < a.cps.toList) (hne : a ≠ b) : ltS a b := by
  by_cases c : a.cps.toList < b.cps.toList
  · exact c
  · exact absurd (str_inj (List.le_antisymm (List.not_lt.mp h) (List.not_lt.mp c))) hne
theorem rising_asc : ∀ {ys : List Str} {x : Str}, risingS x ys = true → (x :: ys).Nodup → ∀ (i : Nat) a b, (x :: ys)[i]? = some a → (x :: ys)[i + 1]? = some b → ltS a b
  | [], _, _, _, i, a, b, _, h2 => by simp at h2
  | y :: r, x, hs, hn, 0, a, b, h1, h2 => by
    simp at h1 h2
    subst h1
    subst h2
    unfold risingS at hs
    have q := (Bool.and_eq_true_iff.mp hs).1
    have hne : x ≠ y := fun e => (List.nodup_cons.mp hn).1 (e ▸ List.mem_cons_self)
    refine lt_of_not (fun hlt => ?_) hne
    rw [ltCps_eq, decide_eq_true hlt] at q
    cases q
  | y :: r, x, hs, hn, i + 1, a, b, h1, h2 => by
    unfold risingS at hs
    exact rising_asc (Bool.and_eq_true_iff.mp hs).2 (List.nodup_cons.mp hn).2 i a b (by simpa using h1) (by simpa using h2)
theorem sorted_asc : ∀ {ys : List Str}, sortedS ys = true → ys.Nodup → ∀ (i : Nat) a b, ys[i]? = some a → ys[i + 1]? = some b → ltS a b
  | [], _, _, i, a, b, h1, _ => by simp at h1
  | x :: r, hs, hn, i, a, b, h1, h2 => rising_asc hs hn i a b h1 h2
section
variable {P : Program} {w : World} {K : PySem.W.Frag} {mg : Str → Option Value} {base : Heap} {A : Adr}
def S_law_take : List AV → (D → Prop) → Prop := fun as Φ => ∃ m : Int, as = [.well, .dat (.int m)] ∧ 0 < m ∧ m < 1000000000 ∧ ∀ d : Int, 0 ≤ d → d < m → Φ (.int d)
theorem ok_law_take (T : Txt K mg A w) : FnOk P w K mg base CX0 1 A.f_law_take A.d_law_take ["well", "many"] (spA K S_law_take) := by
  refine T.F_law_take.ok sc_law_take (fun vs H Q E h => spA_len h fun as Φ h => ?len) (fun cdv Ar outer s H vs Q E hr h => ⟨_, (pss_cons (ps_if (pt_cmpR op_gt (pe_ix (show IxR _ (rIx K) from ix_seq) (pv 0) pe_int (fun _ _ => rfl)) pe_int (nomark _)) (pss_cons (ps_asg (pe_callB call_divmod (by rfl) T.z_divmod boot_divmod (pa_cons (pe_ix (show IxR _ (rIx K) from ix_seq) (pv 0) pe_int (fun _ _ => rfl)) (pa_cons (pv 1) pa_nil))) (show PG _ _ (gTup K _ _) from pg_tup (n := 2) rfl (pgs_cons (pg_sub (pv 0) pe_int set_list) (pgs_cons (pg_name (i := 2) sc_law_take.nd rfl (by first | exact Or.inl rfl | exact Or.inr rfl)) pgs_nil))))
      (pss_one (ps_ret (pv 2)))) pss_nil)
      (pss_cons (ps_asg (pe_op (show OpR _ _ (rAddU K) from op_addU) (pe_ix (show IxR _ (rIx K) from ix_seq) (pv 0) pe_int (fun _ _ => rfl)) pe_int) (pg_sub (pv 0) pe_int set_list))
      (pss_cons (ps_set (i := 3) sc_law_take.nd rfl (by first | exact Or.inl rfl | exact Or.inr rfl) (pe_op (show OpR _ _ (rAddU K) from op_addU) (pe_op op_mod (pe_callTy call_int1 (by rfl) T.z_int PyProof.Rows.boot_int (pa_cons (pe_ix (show IxR _ (rIx K) from ix_seq) (pv 0) pe_int (fun _ _ => rfl)) pa_nil)) pe_int) pe_int))
      (pss_cons (ps_asg (pe_op op_mod (pe_callTy call_int1 (by rfl) T.z_int PyProof.Rows.boot_int (pa_cons (pe_op (show OpR _ _ (rAddU K) from op_addU) (pe_op (show OpR _ _ (rAddU K) from op_addU) (pe_op op_mul (pe_ix (show IxR _ (rIx K) from ix_seq) (pv 0) pe_int (fun _ _ => rfl)) (pv 3)) (pe_op op_mul pe_int (pe_ix (show IxR _ (rIx K) from ix_seq) (pv 0) pe_int (fun _ _ => rfl)))) pe_int) pa_nil)) pe_int) (pg_sub (pv 0) pe_int set_list))
      (pss_one (ps_ret (pe_op op_mod (pe_callTy call_int1 (by rfl) T.z_int PyProof.Rows.boot_int (pa_cons (pe_op op_fdiv (pe_ix (show IxR _ (rIx K) from ix_seq) (pv 0) pe_int (fun _ _ => rfl)) pe_int) pa_nil)) (pv 1))))))))
, ?body⟩)
  case len => obtain ⟨m, rfl, _⟩ := h; rfl
  case body =>
    obtain ⟨as, M, W, Φ, st, r, ⟨m, rfl, h1, h2, hΦ⟩, k⟩ := h
    cases r with
    | @well a _ _ hw r =>
      cases r with
      | dat rm r =>
        cases r
        cases rm
        obtain ⟨x, y, z, ha, hx, hx2, hy, hy2, hz⟩ := st.2.2 a hw
        have l0 : L2.atI [V.int x, .int y, .int z] 0 = some (.int x) := rfl
        have l1 : L2.atI [V.int x, .int y, .int z] 1 = some (.int y) := rfl
        have l2 : L2.atI [V.int x, .int y, .int z] 2 = some (.int z) := rfl
        refine ⟨_, rfl, ixl ha l0 ⟨_, _, rfl, rfl, _, rfl, ite2 (fun e => ?_) (fun e => ?_)⟩⟩
        · have hx0 := of_decide_eq_true e
          refine ⟨_, rfl, ixl ha l0 ⟨_, rfl, x, m, rfl, ⟨h1, by omega⟩, fun p hp => ?_⟩⟩
          have nap : a ≠ p := fun z => by rw [z, hp] at ha; cases ha
          refine ⟨p, _, rfl, .inl (.inl upd_same), rfl, _, _, rfl, ⟨_, rfl, a, _, 0, 0, rfl, rfl, (upd_ne nap).trans ha, rfl, ?_⟩⟩
          refine ⟨_, _, rfl, rfl, _, rfl, k _ _ (.int (x % m)) ?_ (.int _) (hΦ _ (Int.emod_nonneg _ (by omega)) (Int.emod_lt_of_pos _ h1))⟩
          refine fr_well hw (Int.ediv_nonneg hx (by omega)) (Int.le_refl _) hy hy2 hz (mk_fr st hp)
        · refine ⟨_, rfl, ixl ha l2 (.inl ⟨_, _, rfl, rfl, ⟨_, rfl, a, _, 2, 2, rfl, rfl, ha, rfl, ?_⟩⟩)⟩
          have f1 : Z.Fr W H (upd H a (.lst [V.int x, .int y, .int (z + 1)])) := fr_well hw hx hx2 hy hy2 (by omega) Z.Fr.refl
          have a1 : (upd H a (.lst [V.int x, .int y, .int (z + 1)])) a = some (.lst [V.int x, .int y, .int (z + 1)]) := upd_same
          have m1 : L2.atI [V.int x, .int y, .int (z + 1)] 1 = some (.int y) := rfl
          have m2 : L2.atI [V.int x, .int y, .int (z + 1)] 2 = some (.int (z + 1)) := rfl
          refine ⟨_, rfl, ixl a1 m1 (.inl ⟨_, rfl, _, _, rfl, rfl, (by decide : (0 : Int) < 28657), .inl ⟨_, _, rfl, rfl, ?_⟩⟩)⟩
          have hb0 : 0 ≤ y % 28657 := Int.emod_nonneg _ (by omega)
          have hb1 : y % 28657 < 28657 := Int.emod_lt_of_pos _ (by omega)
          refine ⟨_, rfl, ixl a1 m1 ⟨_, rfl, _, _, rfl, rfl, .inl ⟨by omega, by omega⟩, _, rfl, ixl a1 m2 ⟨_, _, rfl, rfl, .inl ⟨by decide, by decide⟩, .inl ⟨_, _, rfl, rfl, .inl ⟨_, _, rfl, rfl, .inl ⟨_, rfl, _, _, rfl, rfl, (by decide : (0 : Int) < 2147483563), ?_⟩⟩⟩⟩⟩⟩
          have hy30 : 0 ≤ ((y * (y % 28657 + 40009) + 50023 * (z + 1) + 17) % 2147483563) := Int.emod_nonneg _ (by omega)
          have hy31 : ((y * (y % 28657 + 40009) + 50023 * (z + 1) + 17) % 2147483563) < 2147483563 := Int.emod_lt_of_pos _ (by omega)
          refine ⟨_, rfl, a, _, 1, 1, rfl, rfl, a1, rfl, ?_⟩
          have f2 : Z.Fr W H (upd (upd H a (.lst [V.int x, .int y, .int (z + 1)])) a (.lst [V.int x, .int ((y * (y % 28657 + 40009) + 50023 * (z + 1) + 17) % 2147483563), .int (z + 1)])) := fr_well hw hx hx2 hy30 (by omega) (by omega) f1
          have b1 : (upd (upd H a (.lst [V.int x, .int y, .int (z + 1)])) a (.lst [V.int x, .int ((y * (y % 28657 + 40009) + 50023 * (z + 1) + 17) % 2147483563), .int (z + 1)])) a = some (.lst [V.int x, .int ((y * (y % 28657 + 40009) + 50023 * (z + 1) + 17) % 2147483563), .int (z + 1)]) := upd_same
          have n1 : L2.atI [V.int x, .int ((y * (y % 28657 + 40009) + 50023 * (z + 1) + 17) % 2147483563), .int (z + 1)] 1 = some (.int ((y * (y % 28657 + 40009) + 50023 * (z + 1) + 17) % 2147483563)) := rfl
          refine ⟨_, rfl, ixl b1 n1 ⟨_, _, rfl, rfl, ⟨by decide, by decide⟩, .inl ⟨_, rfl, _, rfl, _, _, rfl, rfl, h1, ?_⟩⟩⟩
          exact k _ _ (.int (((y * (y % 28657 + 40009) + 50023 * (z + 1) + 17) % 2147483563) / 83 % m)) f2 (.int _) (hΦ _ (Int.emod_nonneg _ (by omega)) (Int.emod_lt_of_pos _ h1))

def S_law_pick : List AV → (D → Prop) → Prop := fun as Φ => ∃ (x : D) (ds : List D), as = [.well, .dat x] ∧ (x = .lst ds ∨ x = .tup ds) ∧ 0 < ds.length ∧ ds.length ≤ 1000 ∧ ∀ d, d ∈ ds → Φ d
theorem ok_law_pick (T : Txt K mg A w) : FnOk P w K mg base CX0 2 A.f_law_pick A.d_law_pick ["well", "some"] (spA K S_law_pick) := by
  have G_law_take := ok_law_take (P := P) (w := w) (base := base) T
  refine T.F_law_pick.ok sc_law_pick (fun vs H Q E h => spA_len h fun as Φ h => ?len) (fun cdv Ar outer s H vs Q E hr h => ?body)
  case body =>
    have hr_law_take := hr.mono (k := _) (j := _) (by decide : 1 ≤ 1)
    refine ⟨_, (pss_one (ps_ret (pe_ix (show IxR _ (rIx K) from ix_seq) (pv 1) (pe_call G_law_take hr_law_take rfl T.m_law_take T.F_law_take.kp T.b_law_take .nil pass0 (pa_cons (pv 0) (pa_cons (pe_callB (show CallR _ _ (rLenU K) from call_lenU) (by rfl) T.z_len PySem.boot_len (pa_cons (pv 1) pa_nil)) pa_nil))) (fun _ _ => rfl)))), fn_body (fun as Φ hs => ?_) vs H Q E h⟩
    obtain ⟨x, ds, rfl, hx, h1, h2, h⟩ := hs
    have hln : lenD x = some ds.length := by rcases hx with rfl | rfl <;> rfl
    refine ws_ret (we_op (we_var rfl (we_call (wa_well rfl (wa_cons (we_cb (wa_cons (we_var rfl (wa_nil (cs_len hln (wa_nil ⟨ds.length, rfl, by omega, by omega, fun d d0 d1 => ?_⟩)))))))))))
    obtain ⟨i, rfl⟩ : ∃ i : Nat, d = (i : Int) := ⟨d.toNat, by omega⟩
    rcases hx with rfl | rfl
    · exact os_ix_lst (Z.atI_nat (List.getElem?_eq_getElem (show i < ds.length by omega))) (h _ (List.getElem_mem _))
    · exact os_ix_tup (Z.atI_nat (List.getElem?_eq_getElem (show i < ds.length by omega))) (h _ (List.getElem_mem _))
  case len => obtain ⟨a, b, rfl, _⟩ := h; rfl
def S_law_letters : List AV → (D → Prop) → Prop := fun as Φ => ∃ m : Nat, as = [.well, .dat (.int (m : Int))] ∧ 1 ≤ m ∧ m ≤ 8 ∧ ∀ z : Str, preName z = true → Φ (.str z)
theorem ok_law_letters (T : Txt K mg A w) : FnOk P w K mg base CX0 2 A.f_law_letters A.d_law_letters ["well", "many"] (spA K S_law_letters) := by
  have G_law_take := ok_law_take (P := P) (w := w) (base := base) T
  refine T.F_law_letters.ok sc_law_letters (fun vs H Q E h => spA_len h fun as Φ h => ?len) (fun cdv Ar outer s H vs Q E hr h => ?body)
  case body =>
    have hr_law_take := hr.mono (k := _) (j := _) (by decide : 1 ≤ 1)
    refine ⟨_, (pss_one (ps_ret (pe_join pe_str (pe_lc (own := [("turn", 2)]) rfl sc_law_letters.nd (pi_range1 (by rfl) T.z_range (pa_cons (pv 1) pa_nil)) (blkOk_by (N := ["well", "many", "turn"]) (sc := defScope s_law_letters) (by decide +kernel)) (fun _ _ _ _ _ => (pg_name (i := 2) sc_law_letters.nd rfl (by first | exact Or.inl rfl | exact Or.inr rfl))) (fun _ _ _ _ _ => pts_nil) (fun _ _ _ _ _ => (pe_ix (show IxR _ (rIx K) from ix_seq) pe_str (pe_call G_law_take hr_law_take rfl T.m_law_take T.F_law_take.kp T.b_law_take .nil pass0 (pa_cons (pv 0) (pa_cons pe_int pa_nil))) (fun _ _ => rfl))))))), fn_body (fun as Φ hs => ?_) vs H Q E h⟩
    obtain ⟨m, rfl, m1, m8, h⟩ := hs
    refine ws_ret (we_join (we_str ⟨_, rfl, we_lc (wr_name 2) (mono_name 2) (by simp) (wi_rng1 (wa_cons (we_var rfl (wa_nil ⟨_, rfl, by omega, ?_, fun i acc => ∃ cs : List Nat, cs.length = i ∧ (∀ c ∈ cs, 97 ≤ c ∧ c ≤ 122) ∧ acc = (cs.map fun c => (⟨#[c]⟩ : Str)).map D.str, ⟨[], rfl, fun c hc => (by cases hc), rfl⟩, fun i d acc hi ha => ?_, fun acc ha => ?_⟩))))⟩))
    · rw [rangeD_len]; omega
    · obtain ⟨cs, hc1, hc2, rfl⟩ := ha
      refine wg_name (wt_true ⟨fun _ => ?_, nofun⟩)
      refine we_op ?_
      refine we_str ?_
      refine we_call ?_
      refine wa_well rfl ?_
      refine wa_cons ?_
      refine we_int ?_
      refine wa_nil ?_
      refine ⟨26, rfl, by omega, by omega, fun d d0 d1 => ?_⟩
      obtain ⟨j, rfl⟩ : ∃ j : Nat, d = (j : Int) := ⟨d.toNat, by omega⟩
      refine os_ix_str (by decide +kernel) (Z.atI_nat (letter_at ⟨j, by omega⟩)) ⟨cs ++ [97 + j], by rw [List.length_append, hc1]; rfl, fun c hc => ?_, ?_⟩
      · rcases List.mem_append.mp hc with q | q
        · exact hc2 c q
        · simp at q; omega
      · rw [List.map_append, List.map_append]; rfl
    · obtain ⟨cs, hc1, hc2, rfl⟩ := ha
      rw [rangeD_len, show ((m : Int)).toNat = m by omega] at hc1
      refine ⟨_, rfl, ?_, ?_⟩
      · have e1 : ((cs.map fun c => (⟨#[c]⟩ : Str)).map (·.length)).sum = cs.length := by
          rw [List.map_map]
          clear hc1 hc2
          induction cs with
          | nil => rfl
          | cons c r ih => rw [List.map_cons, List.sum_cons, ih, List.length_cons]; show 1 + r.length = _; omega
        rw [e1, List.length_map]
        show cs.length + cs.length * 0 ≤ 1000000
        omega
      · rw [join_cs]
        exact h _ (pre_cs (by omega) (by omega) hc2)
  case len => obtain ⟨a, rfl, _⟩ := h; rfl
def S_law_name : List AV → (D → Prop) → Prop := fun as Φ => ∃ tk : List Str, as = [.well, .dat (.lst (tk.map D.str))] ∧ tk.length ≤ 21 ∧ ∀ z : Str, GoodName z → z ∉ tk → Φ (.str z)
theorem ok_law_name (T : Txt K mg A w) : FnOk P w K mg base CX0 3 A.f_law_name A.d_law_name ["well", "taken"] (spA K S_law_name) := by
  have G_law_letters := ok_law_letters (P := P) (w := w) (base := base) T
  have G_law_pick := ok_law_pick (P := P) (w := w) (base := base) T
  have G_law_take := ok_law_take (P := P) (w := w) (base := base) T
  refine T.F_law_name.ok sc_law_name (fun vs H Q E h => spA_len h fun as Φ h => ?len) (fun cdv Ar outer s H vs Q E hr h => ?body)
  case body =>
    have hr_law_letters := hr.mono (k := _) (j := _) (by decide : 2 ≤ 2)
    have hr_law_pick := hr.mono (k := _) (j := _) (by decide : 2 ≤ 2)
    have hr_law_take := hr.mono (k := _) (j := _) (by decide : 1 ≤ 2)
    refine ⟨_, (pss_cons (ps_set (i := 2) sc_law_name.nd rfl (by first | exact Or.inl rfl | exact Or.inr rfl) (pe_lst (pa_cons pe_str (pa_cons pe_str (pa_cons pe_str (pa_cons pe_str (pa_cons pe_str (pa_cons pe_str (pa_cons pe_str (pa_cons pe_str (pa_cons pe_str (pa_cons pe_str (pa_cons pe_str (pa_cons pe_str (pa_cons pe_str (pa_cons pe_str (pa_cons pe_str (pa_cons pe_str pa_nil))))))))))))))))))
      (pss_cons (ps_for PassesOwn.never rfl (pi_range1 (by rfl) T.z_range (pa_cons pe_int pa_nil)) (pg_name (i := 3) sc_law_name.nd rfl (by first | exact Or.inl rfl | exact Or.inr rfl)) (pss_cons (ps_set (i := 4) sc_law_name.nd rfl (by first | exact Or.inl rfl | exact Or.inr rfl) (pe_call G_law_take hr_law_take rfl T.m_law_take T.F_law_take.kp T.b_law_take .nil pass0 (pa_cons (pv 0) (pa_cons pe_int pa_nil))))
      (pss_cons (ps_set (i := 5) sc_law_name.nd rfl (by first | exact Or.inl rfl | exact Or.inr rfl) (pe_call G_law_letters hr_law_letters rfl T.m_law_letters T.F_law_letters.kp T.b_law_letters .nil pass0 (pa_cons (pv 0) (pa_cons (pe_ix (show IxR _ (rIx K) from ix_seq) (pe_lst (pa_cons pe_int (pa_cons pe_int (pa_cons pe_int (pa_cons pe_int (pa_cons pe_int (pa_cons pe_int pa_nil))))))) (pv 4) (fun _ _ => rfl)) pa_nil))))
      (pss_cons (ps_if (pt_cmpR (show OpR _ _ (rEqU K) from op_eqU hr) (pv 4) pe_int (nomark _)) (pss_one (ps_set (i := 5) sc_law_name.nd rfl (by first | exact Or.inl rfl | exact Or.inr rfl) (pe_call G_law_pick hr_law_pick rfl T.m_law_pick T.F_law_pick.kp T.b_law_pick .nil pass0 (pa_cons (pv 0) (pa_cons (pe_lst (pa_cons pe_str (pa_cons pe_str (pa_cons pe_str (pa_cons pe_str (pa_cons pe_str (pa_cons pe_str (pa_cons pe_str (pa_cons pe_str (pa_cons pe_str (pa_cons pe_str (pa_cons pe_str (pa_cons pe_str pa_nil))))))))))))) pa_nil))))) pss_nil)
      (pss_one (ps_if (PW.pt (pw_and (pt_cmpR (show OpR _ _ (rNotInU K) from op_notInU hr) (pv 5) (pv 1) (by rfl)) (pw_and1 (pt_cmpR (show OpR _ _ (rNotInU K) from op_notInU hr) (pv 5) (pv 2) (by rfl))))) (pss_one (ps_ret (pv 5))) pss_nil))))))
      (pss_one (ps_ret (pe_ix (show IxR _ (rIx K) from ix_seq) (pe_lc (own := [("each", 7)]) rfl sc_law_name.nd (pi_list (pe_op (show OpR _ _ (rAddU K) from op_addU) (pe_op (show OpR _ _ (rAddU K) from op_addU) (pe_lc (own := [("many", 6)]) rfl sc_law_name.nd (pi_range2 (by rfl) T.z_range (pa_cons pe_int (pa_cons pe_int pa_nil))) (blkOk_by (N := ["well", "taken", "barred", "turn", "lot", "found", "many", "each"]) (sc := defScope s_law_name) (by decide +kernel)) (fun _ _ _ _ _ => (pg_name (i := 6) sc_law_name.nd rfl (by first | exact Or.inl rfl | exact Or.inr rfl))) (fun _ _ _ _ _ => pts_nil) (fun _ _ _ _ _ => (pe_op (show OpR _ _ rMulS from op_mulS) pe_str (pv 6)))) (pe_lc (own := [("many", 6)]) rfl sc_law_name.nd (pi_range1 (by rfl) T.z_range (pa_cons pe_int pa_nil)) (blkOk_by (N := ["well", "taken", "barred", "turn", "lot", "found", "many", "each"]) (sc := defScope s_law_name) (by decide +kernel)) (fun _ _ _ _ _ => (pg_name (i := 6) sc_law_name.nd rfl (by first | exact Or.inl rfl | exact Or.inr rfl))) (fun _ _ _ _ _ => pts_nil) (fun _ _ _ _ _ => (pe_op (show OpR _ _ (rAddU K) from op_addU) pe_str (pe_op (show OpR _ _ rMulS from op_mulS) pe_str (pv 6)))))) (pe_lc (own := [("many", 6)]) rfl sc_law_name.nd (pi_range1 (by rfl) T.z_range (pa_cons pe_int pa_nil)) (blkOk_by (N := ["well", "taken", "barred", "turn", "lot", "found", "many", "each"]) (sc := defScope s_law_name) (by decide +kernel)) (fun _ _ _ _ _ => (pg_name (i := 6) sc_law_name.nd rfl (by first | exact Or.inl rfl | exact Or.inr rfl))) (fun _ _ _ _ _ => pts_nil) (fun _ _ _ _ _ => (pe_op (show OpR _ _ (rAddU K) from op_addU) pe_str (pe_op (show OpR _ _ rMulS from op_mulS) pe_str (pv 6))))))) (blkOk_by (N := ["well", "taken", "barred", "turn", "lot", "found", "many", "each"]) (sc := defScope s_law_name) (by decide +kernel)) (fun _ _ _ _ _ => (pg_name (i := 7) sc_law_name.nd rfl (by first | exact Or.inl rfl | exact Or.inr rfl))) (fun _ _ _ _ _ => (pts_one (pt_cmpR (show OpR _ _ (rNotInU K) from op_notInU hr) (pv 7) (pv 1) (by rfl)))) (fun _ _ _ _ _ => (pv 7))) pe_int (fun _ _ => rfl)))))), fn_body (fun as Φ hs => ?_) vs H Q E h⟩
    obtain ⟨tk, rfl, hl, h⟩ := hs
    refine ws_seq ?_
    refine ws_asg ?_
    refine we_lst ?_
    iterate 16 (refine wa_cons ?_; refine we_str ?_)
    refine wa_nil ?_
    refine ⟨by show 16 ≤ 100000; decide, _, rfl, ?_⟩
    have hW : ∀ Ψ : D → Prop, Ψ (.lst (l_WORDS.map D.str)) → Ψ (.lst [.str "away", .str "doubt", .str "look", .str "move", .str "none", .str "open", .str "pour", .str "recall", .str "sample", .str "span", .str "state", .str "stop", .str "store", .str "to", .str "undo", .str "worst"]) := fun _ h => h
    refine hW (fun d => _) ?_
    refine ws_forU (fun i δ' => δ' = [some .well, some (.dat (.lst (tk.map D.str))), some (.dat (.lst (l_WORDS.map D.str))), none, none, none, none, none]) ⟨_, rfl, by walk_at "zt"⟩ ?_
    refine wi_rng1 ?_
    refine wa_cons ?_
    refine we_int ?_
    refine wa_nil ?_
    refine ⟨_, rfl, by omega, fun i d δ0 hi hP => ?_, fun δ0 hP => ?_⟩
    · subst hP
      obtain ⟨kk, rfl⟩ : ∃ kk, d = .int kk := by
        have hl := (List.getElem?_eq_some_iff.mp hi).1
        rw [rangeD_len] at hl
        rw [rangeD_get hl] at hi
        exact ⟨_, (Option.some.inj hi).symm⟩
      refine wg_name ?_
      refine ws_seq ?_
      refine ws_asg ?_
      refine we_up ?_
      refine we_call ?_
      refine wa_well rfl ?_
      refine wa_cons ?_
      refine we_int ?_
      refine wa_nil ?_
      refine ⟨6, rfl, by omega, by omega, fun w w0 w1 => ⟨trivial, ?_⟩⟩
      obtain ⟨w, rfl⟩ : ∃ i : Nat, w = (i : Int) := ⟨w.toNat, by omega⟩
      obtain ⟨m, hm, m1, m8⟩ := way_at ⟨w, by omega⟩
      refine ws_seq ?_
      refine ws_asg ?_
      refine we_up ?_
      refine we_call ?_
      refine wa_well rfl ?_
      refine wa_cons ?_
      refine we_op ?_
      refine we_lst ?_
      iterate 6 (refine wa_cons ?_; refine we_int ?_)
      refine wa_nil ?_
      refine ⟨by show 6 ≤ 100000; decide, _, rfl, ?_⟩
      refine we_var rfl ?_
      refine os_ix_lst (x := .int (m : Int)) (Z.atI_nat (xs := [1, 1, 2, 4, 8, 3].map fun (j : Nat) => D.int (j : Int)) (by rw [List.getElem?_map]; show Option.map _ [1, 1, 2, 4, 8, 3][w]? = _; rw [show [1, 1, 2, 4, 8, 3][w]? = some m from hm]; rfl)) (wa_nil ⟨m, rfl, m1, m8, fun z0 hz0 => ⟨trivial, ?_⟩⟩)
      have fin : ∀ z : Str, preName z = true → WS K (tIfS (tAnd (tTest (tOp (rNotInU K) (tVar 5) (tVar 1))) (tTest (tOp (rNotInU K) (tVar 5) (tVar 2)))) (tRet (tVar 5)) tNext) [some .well, some (.dat (.lst (tk.map D.str))), some (.dat (.lst (l_WORDS.map D.str))), some (.dat (.int kk)), some (.dat (.int (w : Int))), some (.dat (.str z)), none, none]
          { nx := Up fun δ' => δ' = [some .well, some (.dat (.lst (tk.map D.str))), some (.dat (.lst (l_WORDS.map D.str))), none, none, none, none, none], rt := Φ } := fun z hz => by
        refine ws_if (wt_and (wt_test ?_))
        refine we_op ?_
        refine we_var rfl ?_
        refine we_var rfl ?_
        refine os_notIn_strs ?_
        refine ⟨_, rfl, fun e1 => wt_test ?_, fun e => ⟨ft, fun _ => ws_next ⟨_, rfl, by walk_at "zt"⟩⟩⟩
        refine we_op ?_
        refine we_var rfl ?_
        refine we_var rfl ?_
        refine os_notIn_strs ?_
        refine ⟨_, rfl, fun e2 => ?_, fun e => ws_next ⟨_, rfl, by walk_at "zt"⟩⟩
        exact ws_ret (we_var rfl (h z (good_of hz (by simpa using e2)) (by simpa using e1)))
      refine ws_seq (ws_if (wt_test (we_op (we_var rfl (we_int (os_eq_int ⟨_, rfl, fun e => ?_, fun e => ws_next ?_⟩))))))
      · refine ws_asg ?_
        refine we_up ?_
        refine we_call ?_
        refine wa_well rfl ?_
        refine wa_cons ?_
        refine we_lst ?_
        iterate 12 (refine wa_cons ?_; refine we_str ?_)
        refine wa_nil ?_
        refine ⟨by show 12 ≤ 100000; decide, _, rfl, ?_⟩
        refine wa_nil ?_
        refine ⟨_, _, rfl, .inl rfl, by show 0 < 12; decide, by show 12 ≤ 1000; decide, fun d hd => ?_⟩
        have hd : d ∈ l_common.map D.str := hd
        obtain ⟨z, hz, rfl⟩ := List.mem_map.mp hd
        refine ⟨trivial, ws_imp (fin z ?_) (fun _ q => q) (fun _ q => q) (fun _ q => q.elim) (fun _ q => q.elim)⟩
        exact List.all_eq_true.mp common_ok z hz
      · exact ws_imp (fin _ hz0) (fun _ q => q) (fun _ q => q) (fun _ q => q.elim) (fun _ q => q.elim)
    · subst hP
      refine ws_ret (we_op (we_lcX (wr_name 7) (mono_name 7) (by simp) (wi_list (we_op (we_op (we_lcX (wr_name 6) (mono_name 6) (by simp) ?_))))))
      refine wi_rng2 ?_
      refine wa_cons ?_
      refine we_int ?_
      refine wa_cons ?_
      refine we_int ?_
      refine wa_nil ?_
      refine ⟨1, 9, rfl, by decide, Nat, List.range 8, fun j => .int ((1 : Int) + (j : Nat)), fun j => some (.str ⟨(List.replicate (1 + j) 113).toArray⟩), rfl, by decide, fun j hj => ?_, we_lcX (wr_name 6) (mono_name 6) (by simp) ?_⟩
      · have := List.mem_range.mp hj
        refine wg_name (wt_true ⟨fun _ => ?_, nofun⟩)
        refine we_op ?_
        refine we_str ?_
        refine we_var rfl ?_
        dsimp only
        rw [show (1 : Int) + (j : Nat) = ((1 + j : Nat) : Int) by omega]
        exact os_mulL (by decide +kernel) (by omega) rfl
      refine wi_rng1 ?_
      refine wa_cons ?_
      refine we_int ?_
      refine wa_nil ?_
      refine ⟨7, rfl, by decide, Nat, List.range 7, fun j => .int ((0 : Int) + (j : Nat)), fun j => some (.str (("jx" : Str) ++ ⟨(List.replicate j 107).toArray⟩)), rfl, by decide, fun j hj => ?_, ?_⟩
      · have := List.mem_range.mp hj
        refine wg_name (wt_true ⟨fun _ => ?_, nofun⟩)
        refine we_op ?_
        refine we_str ?_
        refine we_op ?_
        refine we_str ?_
        refine we_var rfl ?_
        dsimp only
        rw [show (0 : Int) + (j : Nat) = ((j : Nat) : Int) by omega]
        refine os_mulL (by decide +kernel) (by omega) (os_add_str ?_ rfl)
        rw [rep_len, show (("jx" : Str)).length = 2 by decide +kernel]; omega
      rw [fm_map, fm_map]
      refine os_cat (by decide) ?_
      have e1 : (List.range 8).map (fun j => D.str ⟨(List.replicate (1 + j) 113).toArray⟩) ++ (List.range 7).map (fun j => D.str (("jx" : Str) ++ ⟨(List.replicate j 107).toArray⟩)) = (l_oth1 ++ l_oth2).map D.str := by
        unfold l_oth1 l_oth2
        rw [List.map_append, List.map_map, List.map_map]; rfl
      rw [e1]
      refine we_lcX (wr_name 6) (mono_name 6) (by simp) ?_
      refine wi_rng1 ?_
      refine wa_cons ?_
      refine we_int ?_
      refine wa_nil ?_
      refine ⟨7, rfl, by decide, Nat, List.range 7, fun j => .int ((0 : Int) + (j : Nat)), fun j => some (.str (("vv" : Str) ++ ⟨(List.replicate j 119).toArray⟩)), rfl, by decide, fun j hj => ?_, ?_⟩
      · have := List.mem_range.mp hj
        refine wg_name (wt_true ⟨fun _ => ?_, nofun⟩)
        refine we_op ?_
        refine we_str ?_
        refine we_op ?_
        refine we_str ?_
        refine we_var rfl ?_
        dsimp only
        rw [show (0 : Int) + (j : Nat) = ((j : Nat) : Int) by omega]
        refine os_mulL (by decide +kernel) (by omega) (os_add_str ?_ rfl)
        rw [rep_len, show (("vv" : Str)).length = 2 by decide +kernel]; omega
      rw [fm_map]
      refine os_cat (by rw [List.length_map, List.length_map]; decide +kernel) ?_
      have e2 : (l_oth1 ++ l_oth2).map D.str ++ (List.range 7).map (fun j => D.str (("vv" : Str) ++ ⟨(List.replicate j 119).toArray⟩)) = l_oth.map D.str := by
        unfold l_oth l_oth3
        rw [List.map_append (l₂ := List.map _ _), List.map_map]; rfl
      rw [e2]
      refine ⟨_, rfl, Str, l_oth, _, fun z => if z ∈ tk then none else some (D.str z), rfl, by rw [oth_len]; decide, fun z hz => ?_, we_int ?_⟩
      · refine wg_name (wt_test ?_)
        refine we_op ?_
        refine we_var rfl ?_
        refine we_var rfl ?_
        refine os_notIn_strs ?_
        refine ⟨_, rfl, fun e => we_var rfl ?_, fun e => ?_⟩
        · exact if_neg (by simpa using e)
        · exact if_pos (by simpa using e)
      · have hne : ∃ d, d ∈ l_oth.filterMap fun z => if z ∈ tk then none else some (D.str z) := by
          by_cases hall : ∀ z ∈ l_oth, z ∈ tk
          · have := nd_len oth_nd hall
            rw [oth_len] at this
            omega
          · obtain ⟨z, hz⟩ := Classical.not_forall.mp hall
            obtain ⟨hz1, hz2⟩ := Classical.not_imp.mp hz
            exact ⟨.str z, List.mem_filterMap.mpr ⟨z, hz1, if_neg hz2⟩⟩
        obtain ⟨d, hd⟩ := hne
        have hpos := List.length_pos_of_mem hd
        refine os_ix_lst (i := 0) (Z.atI_nat (i := 0) (List.getElem?_eq_getElem hpos)) ?_
        obtain ⟨c, hc, ec⟩ := List.mem_filterMap.mp (List.getElem_mem hpos)
        by_cases hb : c ∈ tk
        · rw [if_pos hb] at ec; cases ec
        · rw [if_neg hb] at ec
          rw [← Option.some.inj ec]
          have := List.all_eq_true.mp oth_ok c hc
          simp only [Bool.and_eq_true, Bool.not_eq_true', decide_eq_false_iff_not] at this
          exact h _ (good_of this.1 this.2) hb
  case len => obtain ⟨a, rfl, _⟩ := h; rfl
end
end T25

namespace T25
open PySem PySem.Spec PyProof.Rows L2 Z
theorem map_pD_snoc (qs : Pl) (a c : Str) : qs.map pD ++ [D.tup [.str a, .str c]] = (qs ++ [(a, c)]).map pD := by rw [List.map_append]; rfl
section
variable {P : Program} {w : World} {K : PySem.W.Frag} {mg : Str → Option Value} {base : Heap} {A : Adr}
def S_law_places : List AV → (D → Prop) → Prop := fun as Φ => ∃ m l : Nat, as = [.well, .dat (.int (m : Int)), .dat (.int (l : Int))] ∧ 1 ≤ m ∧ m ≤ 12 ∧ l ≤ 8 ∧ ∀ ps : Pl, OkP ps → ps.length = m → Φ (.tup (ps.map pD))
theorem ok_law_places (T : Txt K mg A w) : FnOk P w K mg base CX0 4 A.f_law_places A.d_law_places ["well", "many", "labels"] (spA K S_law_places) := by
  have G_law_name := ok_law_name (P := P) (w := w) (base := base) T
  have G_law_pick := ok_law_pick (P := P) (w := w) (base := base) T
  refine T.F_law_places.ok sc_law_places (fun vs H Q E h => spA_len h fun as Φ h => ?len) (fun cdv Ar outer s H vs Q E hr h => ?body)
  case body =>
    have hr_law_name := hr.mono (k := _) (j := _) (by decide : 3 ≤ 3)
    have hr_law_pick := hr.mono (k := _) (j := _) (by decide : 2 ≤ 3)
    refine ⟨_, (pss_cons (ps_asg (pe_tup (pa_cons (pe_lst pa_nil) (pa_cons (pe_lst pa_nil) pa_nil))) (show PG _ _ (gTup K _ _) from pg_tup (n := 2) rfl (pgs_cons (pg_name (i := 3) sc_law_places.nd rfl (by first | exact Or.inl rfl | exact Or.inr rfl)) (pgs_cons (pg_name (i := 4) sc_law_places.nd rfl (by first | exact Or.inl rfl | exact Or.inr rfl)) pgs_nil))))
      (pss_cons (ps_for PassesOwn.never rfl (pi_range1 (by rfl) T.z_range (pa_cons (pv 1) pa_nil)) (pg_name (i := 5) sc_law_places.nd rfl (by first | exact Or.inl rfl | exact Or.inr rfl)) (pss_one (ps_expr (pe_bm PySem.F.plainAttrs_list PySem.F.slot_list_append PySem.F.type_list_append mt_append (pv 3) (pa_cons (pe_call G_law_name hr_law_name rfl T.m_law_name T.F_law_name.kp T.b_law_name .nil pass0 (pa_cons (pv 0) (pa_cons (pv 3) pa_nil))) pa_nil)))))
      (pss_cons (ps_for PassesOwn.never rfl (pi_range1 (by rfl) T.z_range (pa_cons (pv 2) pa_nil)) (pg_name (i := 5) sc_law_places.nd rfl (by first | exact Or.inl rfl | exact Or.inr rfl)) (pss_one (ps_expr (pe_bm PySem.F.plainAttrs_list PySem.F.slot_list_append PySem.F.type_list_append mt_append (pv 4) (pa_cons (pe_call G_law_name hr_law_name rfl T.m_law_name T.F_law_name.kp T.b_law_name .nil pass0 (pa_cons (pv 0) (pa_cons (pv 4) pa_nil))) pa_nil)))))
      (pss_one (ps_ret (pe_callTy (show CallR _ _ (rTupleU K) from call_tupleU) (by rfl) T.z_tuple PyProof.Rows.boot_tuple (pa_cons (pe_lc (own := [("name", 6)]) rfl sc_law_places.nd (pi_list (pe_callB (show CallR _ _ (rSortedU K) from call_sortedU) (by rfl) T.z_sorted boot_sorted (pa_cons (pv 3) pa_nil))) (blkOk_by (N := ["well", "many", "labels", "names", "tags", "turn", "name"]) (sc := defScope s_law_places) (by decide +kernel)) (fun _ _ _ _ _ => (pg_name (i := 6) sc_law_places.nd rfl (by first | exact Or.inl rfl | exact Or.inr rfl))) (fun _ _ _ _ _ => pts_nil) (fun _ _ _ _ _ => (pe_tup (pa_cons (pv 6) (pa_cons (pe_call G_law_pick hr_law_pick rfl T.m_law_pick T.F_law_pick.kp T.b_law_pick .nil pass0 (pa_cons (pv 0) (pa_cons (pe_op (show OpR _ _ (rAddU K) from op_addU) (pe_op (show OpR _ _ (rAddU K) from op_addU) (pe_lst (pa_cons pe_str pa_nil)) (pv 4)) (pv 4)) pa_nil))) pa_nil))))) pa_nil))))))), fn_body (fun as Φ hs => ?_) vs H Q E h⟩
    obtain ⟨m, l, rfl, m1, m12, l8, h⟩ := hs
    refine ws_seq (ws_tupW [3, 4] rfl (wp_newL (wp_newL (wp_nil ⟨rfl, by decide, ?_⟩))))
    refine ws_forU (fun i δ' => ∃ ns : List Str, ns.length = i ∧ i ≤ m ∧ ns.Nodup ∧ (∀ z ∈ ns, GoodName z) ∧ δ' = [some .well, some (.dat (.int (m : Int))), some (.dat (.int (l : Int))), some (.own (ns.map D.str)), some (.own []), none, none]) ⟨_, ⟨[], rfl, Nat.zero_le _, List.nodup_nil, nofun, rfl⟩, by walk_at "zt"⟩
      (wi_rng1 (wa_cons (we_var rfl (wa_nil ⟨_, rfl, by omega, fun i d δ0 hi hP => ?_, fun δ0 hP => ?_⟩))))
    · obtain ⟨ns, hl, him, hnd, hg, rfl⟩ := hP
      have hi1 : i < m := by
        have hl := (List.getElem?_eq_some_iff.mp hi).1
        rw [rangeD_len] at hl
        omega
      refine wg_name (ws_app rfl (by rw [List.length_map]; omega) (we_up (we_call (wa_well rfl (wa_cons (we_varO rfl (wa_nil ⟨ns, rfl, by omega, fun z gz hz => ⟨trivial, _, ⟨ns ++ [z], by rw [List.length_append, hl]; rfl, by omega, nd_snoc hnd hz, fun y hy => ?_, rfl⟩, ?_⟩⟩)))))))
      · rcases List.mem_append.mp hy with q | q
        · exact hg y q
        · simp at q; rw [q]; exact gz
      · rw [List.map_append]
        walk_at "zt"
    obtain ⟨ns, hl, him, hnd, hg, rfl⟩ := hP
    rw [rangeD_len] at hl
    have hlm : ns.length = m := by omega
    clear hl him
    refine ws_forU (fun i δ' => ∃ ts : List Str, ts.length = i ∧ i ≤ l ∧ (∀ z ∈ ts, GoodName z) ∧ δ' = [some .well, some (.dat (.int (m : Int))), some (.dat (.int (l : Int))), some (.own (ns.map D.str)), some (.own (ts.map D.str)), none, none]) ⟨_, ⟨[], rfl, Nat.zero_le _, nofun, rfl⟩, by walk_at "zt"⟩
      (wi_rng1 (wa_cons (we_var rfl (wa_nil ⟨_, rfl, by omega, fun i d δ0 hi hP => ?_, fun δ0 hP => ?_⟩))))
    · obtain ⟨ts, hl, him, hg, rfl⟩ := hP
      have hi1 : i < l := by
        have hl := (List.getElem?_eq_some_iff.mp hi).1
        rw [rangeD_len] at hl
        omega
      refine wg_name (ws_app rfl (by rw [List.length_map]; omega) (we_up (we_call (wa_well rfl (wa_cons (we_varO rfl (wa_nil ⟨ts, rfl, by omega, fun z gz hz => ⟨trivial, _, ⟨ts ++ [z], by rw [List.length_append, hl]; rfl, by omega, fun y hy => ?_, rfl⟩, ?_⟩⟩)))))))
      · rcases List.mem_append.mp hy with q | q
        · exact hg y q
        · simp at q; rw [q]; exact gz
      · rw [List.map_append]
        walk_at "zt"
    obtain ⟨ts, hl, him, htg, rfl⟩ := hP
    rw [rangeD_len] at hl
    have htl : ts.length ≤ 8 := by omega
    refine ws_freeze 3 rfl (ws_freeze 4 rfl (ws_ret (we_cb (wa_cons ?_))))
    refine we_lc (wr_name 6) (mono_name 6) (by simp) (wi_list (we_cb (wa_cons (we_var rfl (wa_nil (cs_sortS (by omega) fun ys hp hs => ⟨_, rfl, by rw [List.length_map, hp.length_eq]; omega, fun i acc => ∃ qs : Pl, qs.map (·.1) = ys.take i ∧ (∀ q ∈ qs, q.2 = "" ∨ q.2 ∈ ts) ∧ acc = qs.map pD, ⟨[], rfl, nofun, rfl⟩, fun i d acc hi hJ => ?_, fun acc hJ => ?_⟩))))))
    · obtain ⟨qs, hq, ht, rfl⟩ := hJ
      obtain ⟨z, hz, rfl⟩ := map_at hi
      refine wg_name (wt_true ⟨fun _ => ?_, nofun⟩)
      refine we_tup ?_
      refine wa_cons ?_
      refine we_var rfl ?_
      refine wa_cons ?_
      refine we_call ?_
      refine wa_well rfl ?_
      refine wa_cons ?_
      refine we_op ?_
      refine we_op ?_
      refine we_lst ?_
      refine wa_cons ?_
      refine we_str ?_
      refine wa_nil ?_
      refine ⟨by show 1 ≤ 100000; decide, _, rfl, ?_⟩
      refine we_var rfl ?_
      refine os_cat (by rw [List.length_map]; simp; omega) ?_
      refine we_var rfl ?_
      refine os_cat (by rw [List.length_append, List.length_map]; simp; omega) (wa_nil ⟨_, _, rfl, .inl rfl, by simp, by simp; omega, fun d hd => ?_⟩)
      obtain ⟨t, rfl, ht2⟩ : ∃ t, d = .str t ∧ (t = "" ∨ t ∈ ts) := by
        have hd : d ∈ [D.str ""] ++ ts.map D.str ++ ts.map D.str := hd
        rcases List.mem_append.mp hd with q | q
        · rcases List.mem_append.mp q with q | q
          · exact ⟨_, List.mem_singleton.mp q, .inl rfl⟩
          · obtain ⟨t, ht, rfl⟩ := List.mem_map.mp q
            exact ⟨t, rfl, .inr ht⟩
        · obtain ⟨t, ht, rfl⟩ := List.mem_map.mp q
          exact ⟨t, rfl, .inr ht⟩
      refine wa_nil ⟨Nat.le_of_ble_eq_true rfl, _, rfl, qs ++ [(z, t)], by rw [List.map_append, hq, tk_snoc hz]; rfl, fun q hq => ?_, map_pD_snoc qs z t⟩
      rcases List.mem_append.mp hq with q2 | q2
      · exact ht q q2
      · rw [List.mem_singleton.mp q2]; exact ht2
    · obtain ⟨qs, hq, ht, rfl⟩ := hJ
      rw [List.length_map, List.take_length] at hq
      have hql : qs.length = m := by
        rw [← List.length_map (f := (·.1)), hq, hp.length_eq, hlm]
      have asc := sorted_asc hs (hp.symm.nodup hnd)
      refine wa_nil (cs_tuple_lst (h qs ⟨by omega, by omega, fun q hq' => hg _ (hp.subset ?_), ⟨ts, htl, htg, ht⟩, fun i a c h1 h2 => ?_⟩ hql))
      · rw [← hq]; exact List.mem_map_of_mem (f := (·.1)) hq'
      · exact asc i a.1 c.1 (by rw [← hq, List.getElem?_map, h1]; rfl) (by rw [← hq, List.getElem?_map, h2]; rfl)
  case len => obtain ⟨a, b, rfl, _⟩ := h; rfl
def S_law_bounds : List AV → (D → Prop) → Prop := fun as Φ => ∃ n m : Int, as = [.well, .dat (.int n), .dat (.int m)] ∧ 0 ≤ n ∧ n ≤ m ∧ m ≤ 1000000 ∧ ∀ lo hi : Int, 0 ≤ lo → lo ≤ n → n ≤ hi → hi ≤ m → Φ (.tup [.int lo, .int hi])
theorem ok_law_bounds (T : Txt K mg A w) : FnOk P w K mg base CX0 3 A.f_law_bounds A.d_law_bounds ["well", "number", "most"] (spA K S_law_bounds) := by
  have G_law_pick := ok_law_pick (P := P) (w := w) (base := base) T
  have G_law_take := ok_law_take (P := P) (w := w) (base := base) T
  refine T.F_law_bounds.ok sc_law_bounds (fun vs H Q E h => spA_len h fun as Φ h => ?len) (fun cdv Ar outer s H vs Q E hr h => ?body)
  case body =>
    have hr_law_pick := hr.mono (k := _) (j := _) (by decide : 2 ≤ 2)
    have hr_law_take := hr.mono (k := _) (j := _) (by decide : 1 ≤ 2)
    refine ⟨_, (pss_cons (ps_set (i := 3) sc_law_bounds.nd rfl (by first | exact Or.inl rfl | exact Or.inr rfl) (pe_call G_law_pick hr_law_pick rfl T.m_law_pick T.F_law_pick.kp T.b_law_pick .nil pass0 (pa_cons (pv 0) (pa_cons (pe_lst (pa_cons (pv 1) (pa_cons (pe_callB (show CallR _ _ (rMaxU K) from call_maxU rfl) (by rfl) T.z_max boot_max (pa_cons pe_int (pa_cons (pe_op op_sub (pv 1) pe_int) pa_nil))) (pa_cons pe_int (pa_cons (pe_call G_law_take hr_law_take rfl T.m_law_take T.F_law_take.kp T.b_law_take .nil pass0 (pa_cons (pv 0) (pa_cons (pe_op (show OpR _ _ (rAddU K) from op_addU) (pv 1) pe_int) pa_nil))) pa_nil))))) pa_nil))))
      (pss_one (ps_ret (pe_tup (pa_cons (pv 3) (pa_cons (pe_call G_law_pick hr_law_pick rfl T.m_law_pick T.F_law_pick.kp T.b_law_pick .nil pass0 (pa_cons (pv 0) (pa_cons (pe_lst (pa_cons (pv 1) (pa_cons (pe_callB (show CallR _ _ (rMinU K) from call_minU rfl) (by rfl) T.z_min boot_min (pa_cons (pv 2) (pa_cons (pe_op (show OpR _ _ (rAddU K) from op_addU) (pv 1) pe_int) pa_nil))) (pa_cons (pv 2) (pa_cons (pe_op (show OpR _ _ (rAddU K) from op_addU) (pv 1) (pe_call G_law_take hr_law_take rfl T.m_law_take T.F_law_take.kp T.b_law_take .nil pass0 (pa_cons (pv 0) (pa_cons (pe_op (show OpR _ _ (rAddU K) from op_addU) (pe_op op_sub (pv 2) (pv 1)) pe_int) pa_nil)))) pa_nil))))) pa_nil))) pa_nil)))))), fn_body (fun as Φ hs => ?_) vs H Q E h⟩
    obtain ⟨n, m, rfl, n0, nm, mm, h⟩ := hs
    refine ws_seq ?_
    refine ws_asg ?_
    refine we_up ?_
    refine we_call ?_
    refine wa_well rfl ?_
    refine wa_cons ?_
    refine we_lst ?_
    refine wa_cons ?_
    refine we_var rfl ?_
    refine wa_cons ?_
    refine we_cb ?_
    refine wa_cons ?_
    refine we_int ?_
    refine wa_cons ?_
    refine we_op ?_
    refine we_var rfl ?_
    refine we_int ?_
    refine os_sub ?_
    refine wa_nil ?_
    refine cs_max2 ?_
    refine wa_cons ?_
    refine we_int ?_
    refine wa_cons ?_
    refine we_call ?_
    refine wa_well rfl ?_
    refine wa_cons ?_
    refine we_op ?_
    refine we_var rfl ?_
    refine we_int ?_
    refine os_add_int ?_
    refine wa_nil ?_
    refine ⟨n + 1, rfl, by omega, by omega, fun t t0 t1 => ?_⟩
    refine wa_nil ?_
    refine ⟨by show 4 ≤ 100000; decide, _, rfl, ?_⟩
    refine wa_nil ?_
    refine ⟨_, _, rfl, .inl rfl, by show 0 < 4; decide, by show 4 ≤ 1000; decide, fun d hd => ?_⟩
    obtain ⟨lo, rfl, l0, l1⟩ : ∃ lo : Int, d = .int lo ∧ 0 ≤ lo ∧ lo ≤ n := by
      simp only [List.mem_cons, List.not_mem_nil, or_false] at hd
      rcases hd with rfl | rfl | rfl | rfl
      · exact ⟨_, rfl, by omega, by omega⟩
      · exact ⟨_, rfl, by omega, by omega⟩
      · exact ⟨_, rfl, by omega, by omega⟩
      · exact ⟨_, rfl, by omega, by omega⟩
    refine ⟨trivial, ws_ret (we_tup (wa_cons (we_var rfl (wa_cons ?_))))⟩
    refine we_call ?_
    refine wa_well rfl ?_
    refine wa_cons ?_
    refine we_lst ?_
    refine wa_cons ?_
    refine we_var rfl ?_
    refine wa_cons ?_
    refine we_cb ?_
    refine wa_cons ?_
    refine we_var rfl ?_
    refine wa_cons ?_
    refine we_op ?_
    refine we_var rfl ?_
    refine we_int ?_
    refine os_add_int ?_
    refine wa_nil ?_
    refine cs_min2 ?_
    refine wa_cons ?_
    refine we_var rfl ?_
    refine wa_cons ?_
    refine we_op ?_
    refine we_var rfl ?_
    refine we_call ?_
    refine wa_well rfl ?_
    refine wa_cons ?_
    refine we_op ?_
    refine we_op ?_
    refine we_var rfl ?_
    refine we_var rfl ?_
    refine os_sub ?_
    refine we_int ?_
    refine os_add_int ?_
    refine wa_nil ?_
    refine ⟨_, rfl, by omega, by omega, fun t t0 t1 => ?_⟩
    refine os_add_int ?_
    refine wa_nil ?_
    refine ⟨by show 4 ≤ 100000; decide, _, rfl, ?_⟩
    refine wa_nil ?_
    refine ⟨_, _, rfl, .inl rfl, by show 0 < 4; decide, by show 4 ≤ 1000; decide, fun d hd => ?_⟩
    obtain ⟨hi, rfl, h0, h1⟩ : ∃ hi : Int, d = .int hi ∧ n ≤ hi ∧ hi ≤ m := by
      simp only [List.mem_cons, List.not_mem_nil, or_false] at hd
      rcases hd with rfl | rfl | rfl | rfl
      · exact ⟨_, rfl, by omega, by omega⟩
      · exact ⟨_, rfl, by omega, by omega⟩
      · exact ⟨_, rfl, by omega, by omega⟩
      · exact ⟨_, rfl, by omega, by omega⟩
    exact wa_nil ⟨Nat.le_of_ble_eq_true rfl, _, rfl, h lo hi l0 l1 h0 h1⟩
  case len => obtain ⟨a, b, rfl, _⟩ := h; rfl
def S_law_taken : List AV → (D → Prop) → Prop := fun as Φ => ∃ t b : Int, as = [.well, .dat (.int t), .dat (.int b)] ∧ 1 ≤ t ∧ t ≤ 1000000 ∧ 0 ≤ b ∧ b ≤ t ∧ ∀ c n : Int, 1 ≤ c → c ≤ t → 0 ≤ n → n ≤ c → n ≤ b → b - n ≤ t - c → Φ (.tup [.int c, .int n])
theorem ok_law_taken (T : Txt K mg A w) : FnOk P w K mg base CX0 3 A.f_law_taken A.d_law_taken ["well", "total", "bad"] (spA K S_law_taken) := by
  have G_law_pick := ok_law_pick (P := P) (w := w) (base := base) T
  have G_law_take := ok_law_take (P := P) (w := w) (base := base) T
  refine T.F_law_taken.ok sc_law_taken (fun vs H Q E h => spA_len h fun as Φ h => ?len) (fun cdv Ar outer s H vs Q E hr h => ?body)
  case body =>
    have hr_law_pick := hr.mono (k := _) (j := _) (by decide : 2 ≤ 2)
    have hr_law_take := hr.mono (k := _) (j := _) (by decide : 1 ≤ 2)
    refine ⟨_, (pss_cons (ps_set (i := 3) sc_law_taken.nd rfl (by first | exact Or.inl rfl | exact Or.inr rfl) (pe_call G_law_pick hr_law_pick rfl T.m_law_pick T.F_law_pick.kp T.b_law_pick .nil pass0 (pa_cons (pv 0) (pa_cons (pe_lst (pa_cons (pe_op (show OpR _ _ (rAddU K) from op_addU) pe_int (pe_call G_law_take hr_law_take rfl T.m_law_take T.F_law_take.kp T.b_law_take .nil pass0 (pa_cons (pv 0) (pa_cons (pv 1) pa_nil)))) (pa_cons (pv 1) (pa_cons pe_int (pa_cons (pe_callB (show CallR _ _ (rMaxU K) from call_maxU rfl) (by rfl) T.z_max boot_max (pa_cons pe_int (pa_cons (pe_op op_sub (pv 1) pe_int) pa_nil))) pa_nil))))) pa_nil))))
      (pss_cons (ps_set (i := 4) sc_law_taken.nd rfl (by first | exact Or.inl rfl | exact Or.inr rfl) (pe_callB (show CallR _ _ (rMaxU K) from call_maxU rfl) (by rfl) T.z_max boot_max (pa_cons pe_int (pa_cons (pe_op op_sub (pv 3) (pe_op op_sub (pv 1) (pv 2))) pa_nil))))
      (pss_one (ps_ret (pe_tup (pa_cons (pv 3) (pa_cons (pe_op (show OpR _ _ (rAddU K) from op_addU) (pv 4) (pe_call G_law_take hr_law_take rfl T.m_law_take T.F_law_take.kp T.b_law_take .nil pass0 (pa_cons (pv 0) (pa_cons (pe_op (show OpR _ _ (rAddU K) from op_addU) (pe_op op_sub (pe_callB (show CallR _ _ (rMinU K) from call_minU rfl) (by rfl) T.z_min boot_min (pa_cons (pv 3) (pa_cons (pv 2) pa_nil))) (pv 4)) pe_int) pa_nil)))) pa_nil))))))), fn_body (fun as Φ hs => ?_) vs H Q E h⟩
    obtain ⟨t, b, rfl, t1, tm, b0, bt, h⟩ := hs
    refine ws_seq ?_
    refine ws_asg ?_
    refine we_up ?_
    refine we_call ?_
    refine wa_well rfl ?_
    refine wa_cons ?_
    refine we_lst ?_
    refine wa_cons ?_
    refine we_op ?_
    refine we_int ?_
    refine we_call ?_
    refine wa_well rfl ?_
    refine wa_cons ?_
    refine we_var rfl ?_
    refine wa_nil ?_
    refine ⟨t, rfl, by omega, by omega, fun x x0 x1 => ?_⟩
    refine os_add_int ?_
    refine wa_cons ?_
    refine we_var rfl ?_
    refine wa_cons ?_
    refine we_int ?_
    refine wa_cons ?_
    refine we_cb ?_
    refine wa_cons ?_
    refine we_int ?_
    refine wa_cons ?_
    refine we_op ?_
    refine we_var rfl ?_
    refine we_int ?_
    refine os_sub ?_
    refine wa_nil ?_
    refine cs_max2 ?_
    refine wa_nil ?_
    refine ⟨by show 4 ≤ 100000; decide, _, rfl, ?_⟩
    refine wa_nil ?_
    refine ⟨_, _, rfl, .inl rfl, by show 0 < 4; decide, by show 4 ≤ 1000; decide, fun d hd => ?_⟩
    obtain ⟨c, rfl, c0, c1⟩ : ∃ c : Int, d = .int c ∧ 1 ≤ c ∧ c ≤ t := by
      simp only [List.mem_cons, List.not_mem_nil, or_false] at hd
      rcases hd with rfl | rfl | rfl | rfl
      · exact ⟨_, rfl, by omega, by omega⟩
      · exact ⟨_, rfl, by omega, by omega⟩
      · exact ⟨_, rfl, by omega, by omega⟩
      · exact ⟨_, rfl, by omega, by omega⟩
    refine ⟨trivial, ?_⟩
    refine ws_seq ?_
    refine ws_asg ?_
    refine we_cb ?_
    refine wa_cons ?_
    refine we_int ?_
    refine wa_cons ?_
    refine we_op ?_
    refine we_var rfl ?_
    refine we_op ?_
    refine we_var rfl ?_
    refine we_var rfl ?_
    refine os_sub ?_
    refine os_sub ?_
    refine wa_nil ?_
    refine cs_max2 ?_
    refine ws_ret (we_tup (wa_cons (we_var rfl (wa_cons ?_))))
    refine we_op ?_
    refine we_var rfl ?_
    refine we_call ?_
    refine wa_well rfl ?_
    refine wa_cons ?_
    refine we_op ?_
    refine we_op ?_
    refine we_cb ?_
    refine wa_cons ?_
    refine we_var rfl ?_
    refine wa_cons ?_
    refine we_var rfl ?_
    refine wa_nil ?_
    refine cs_min2 ?_
    refine we_var rfl ?_
    refine os_sub ?_
    refine we_int ?_
    refine os_add_int ?_
    refine wa_nil ?_
    refine ⟨_, rfl, by omega, by omega, fun n n0 n1 => ?_⟩
    refine os_add_int ?_
    refine wa_nil ?_
    refine ⟨Nat.le_of_ble_eq_true rfl, _, rfl, h c _ c0 c1 (by omega) (by omega) (by omega) (by omega)⟩
  case len => obtain ⟨a, b, rfl, _⟩ := h; rfl
end
end T25

namespace T25
open PySem PySem.Spec PyProof.Rows L2 Z
def exD (p : Ev × Int) : D := .tup [.tup (evL p.1), .int p.2]
theorem fm_if {α β : Type} (p : α → Bool) (g : α → β) (xs : List α) : (xs.filterMap fun x => if p x = true then some (g x) else none) = (xs.filter p).map g := by
  induction xs with
  | nil => rfl
  | cons a r ih =>
    rw [List.filterMap_cons]
    by_cases c : p a = true
    · rw [if_pos c, List.filter_cons_of_pos c, List.map_cons, ih]
    · rw [if_neg c, List.filter_cons_of_neg c, ih]
def pB (es : List (Ev × Int)) (i : Nat) : Bool := match es[i]? with
  | some p => p.1.isPour
  | none => false
def pourIx (es : List (Ev × Int)) : List Nat := (List.range es.length).filter (pB es)
theorem mem_pourIx {es : List (Ev × Int)} {i : Nat} (h : i ∈ pourIx es) : ∃ d p n lo hi x, es[i]? = some (.pour d p n lo hi, x) := by
  have := (List.mem_filter.mp h).2
  unfold pB at this
  cases e : es[i]? with
  | none => rw [e] at this; cases this
  | some q =>
    rw [e] at this
    obtain ⟨q, x⟩ := q
    cases q with
    | pour d p n lo hi => exact ⟨d, p, n, lo, hi, x, rfl⟩
    | _ => cases this
theorem sum_up {h : Str → Int} {z : Str} {x : Int} : ∀ {ns : List Str}, ns.Nodup → z ∈ ns → (ns.map (up h z x)).sum = (ns.map h).sum + x
  | [], _, m => by cases m
  | a :: r, nd, m => by
    obtain ⟨n1, n2⟩ := List.nodup_cons.mp nd
    rw [List.map_cons, List.map_cons, List.sum_cons, List.sum_cons]
    by_cases e : a = z
    · subst e
      have : r.map (up h a x) = r.map h := List.map_congr_left fun y hy => if_neg fun (e : y = a) => n1 (by rw [← e]; exact hy)
      rw [this, show up h a x a = h a + x from if_pos rfl]; omega
    · rw [sum_up n2 ((List.mem_cons.mp m).resolve_left fun q => e q.symm), show up h z x a = h a from if_neg e]; omega
theorem sum_nn {h : Str → Int} : ∀ {ns : List Str}, (∀ z ∈ ns, 0 ≤ h z) → 0 ≤ (ns.map h).sum
  | [], _ => Int.le_refl _
  | a :: r, nn => by
    rw [List.map_cons, List.sum_cons]
    have h1 := nn a List.mem_cons_self
    have h2 := sum_nn fun z hz => nn z (List.mem_cons_of_mem a hz)
    omega
theorem le_sum {h : Str → Int} : ∀ {ns : List Str}, (∀ z ∈ ns, 0 ≤ h z) → ∀ z ∈ ns, h z ≤ (ns.map h).sum
  | [], _, z, m => by cases m
  | a :: r, nn, z, m => by
    rw [List.map_cons, List.sum_cons]
    have nr : ∀ z ∈ r, 0 ≤ h z := fun z hz => nn z (List.mem_cons_of_mem _ hz)
    have s0 := sum_nn nr
    have ha := nn a List.mem_cons_self
    rcases List.mem_cons.mp m with rfl | m
    · omega
    · have := le_sum nr z m
      omega
theorem kind_pour (e : Ev) : decide (e.kind = "pour") = e.isPour := by
  cases e
  · show decide (("pour" : Str) = "pour") = true; decide +kernel
  · show decide (("move" : Str) = "pour") = false; decide +kernel
  · show decide (("away" : Str) = "pour") = false; decide +kernel
  · show decide (("sample" : Str) = "pour") = false; decide +kernel
  · show decide (("look" : Str) = "pour") = false; decide +kernel
  · show decide (("doubt" : Str) = "pour") = false; decide +kernel
structure Tot (ns : List Str) (h g : Str → Int) (len : Nat) : Prop where
  nn : ∀ z ∈ ns, 0 ≤ g z ∧ g z ≤ h z
  sm : (ns.map h).sum ≤ 999 * (len : Int)
theorem Tot.le {ns : List Str} {h g : Str → Int} {len : Nat} (t : Tot ns h g len) {z : Str} (m : z ∈ ns) : 0 ≤ h z ∧ h z ≤ 999 * (len : Int) := by
  have h0 : ∀ z ∈ ns, 0 ≤ h z := fun z m => by have := t.nn z m; omega
  have := le_sum h0 z m
  have := t.sm
  have := h0 z m
  omega
theorem Tot.succ {ns : List Str} {h g : Str → Int} {len : Nat} (t : Tot ns h g len) : Tot ns h g (len + 1) := ⟨t.nn, by have := t.sm; omega⟩
theorem Tot.add {ns : List Str} {h g : Str → Int} {len : Nat} (t : Tot ns h g len) (nd : ns.Nodup) {z : Str} (m : z ∈ ns) {c n : Int} (c0 : c ≤ 999) (h1 : 0 ≤ g z + n) (h2 : g z + n ≤ h z + c) : Tot ns (up h z c) (up g z n) (len + 1) := by
  refine ⟨fun y hy => ?_, ?_⟩
  · unfold up
    by_cases e : y = z
    · subst e; rw [if_pos rfl, if_pos rfl]; exact ⟨h1, h2⟩
    · rw [if_neg e, if_neg e]; exact t.nn y hy
  · rw [sum_up nd m]; have := t.sm; omega
theorem Tot.move {ns : List Str} {h g : Str → Int} {len : Nat} (t : Tot ns h g len) (nd : ns.Nodup) {p q : Str} (mp : p ∈ ns) (mq : q ∈ ns) (ne : q ≠ p) {c n : Int} (n0 : 0 ≤ n) (nc : n ≤ c) (nb : n ≤ g p) (nr : g p - n ≤ h p - c) : Tot ns (up (up h p (-c)) q c) (up (up g p (-n)) q n) (len + 1) := by
  refine ⟨fun y hy => ?_, ?_⟩
  · have := t.nn y hy
    have := t.nn p mp
    have := t.nn q mq
    unfold up
    by_cases e : y = q
    · subst e
      rw [if_pos rfl, if_pos rfl, if_neg ne, if_neg ne]
      omega
    · rw [if_neg e, if_neg e]
      by_cases e2 : y = p
      · subst e2; rw [if_pos rfl, if_pos rfl]; omega
      · rw [if_neg e2, if_neg e2]; omega
  · rw [sum_up nd mq, sum_up nd mp]; have := t.sm; omega
/-- what comes before an event is drawn -/
structure OePre (ns : List Str) (h g : Str → Int) (es : List (Ev × Int)) (most : Int) : Prop where
  nd : ns.Nodup
  n1 : 1 ≤ ns.length
  n12 : ns.length ≤ 12
  tot : Tot ns h g es.length
  few : es.length ≤ 40
  pr : ∀ (i : Nat) d p n lo hi x, es[i]? = some (.pour d p n lo hi, x) → 0 ≤ x ∧ x ≤ n ∧ n ≤ 999
  m1 : 1 ≤ most
  m9 : most ≤ 999
structure OePost (ns : List Str) (h : Str → Int) (es : List (Ev × Int)) (day : Int) (ev : Ev) (x : Int) (g' : Str → Int) : Prop where
  ok : ev.Ok ns (es.map (·.1)) h
  dy : ev.day = day
  tot : Tot ns (step h ev) g' (es.length + 1)
  pr : ∀ d p n lo hi, ev = .pour d p n lo hi → 0 ≤ x ∧ x ≤ n ∧ n ≤ 999
def oeRt (ns : List Str) (h : Str → Int) (es : List (Ev × Int)) (day : Int) : Sl → D → Prop := fun δ' d => ∃ ev x g', d = exD (ev, x) ∧ δ'[2]? = some (some (.ownD (hD ns (step h ev)))) ∧ δ'[3]? = some (some (.ownD (hD ns g'))) ∧ OePost ns h es day ev x g'
def spOE (K : PySem.W.Frag) : Sp := fun vs H Q _ => ∃ (ns : List Str) (h g : Str → Int) (es : List (Ev × Int)) (day most : Int) (news : Bool) (w0 t b : Addr) (v1 v4 : V) (M W : AS) (vt vb : List (Key × V)),
  vs = [.ref w0, v1, .ref t, .ref b, v4, .int day, .int most, .bl news] ∧ St0 M W H ∧ W w0 ∧ ¬ M t ∧ ¬ M b ∧ t ≠ b ∧ H t = some (.dK vt) ∧ H b = some (.dK vb) ∧ RepK K M H vt (hD ns h) ∧ RepK K M H vb (hD ns g) ∧
  Rep K M H v1 (.lst (ns.map D.str)) ∧ Rep K M H v4 (.lst (es.map exD)) ∧ OePre ns h g es most ∧
  ∀ v H' ev x g' vt' vb', (∀ a o, a ≠ t → a ≠ b → ¬ W a → H a = some o → H' a = some o) → (∀ a, W a → WellAt H' a) → H' t = some (.dK vt') → H' b = some (.dK vb') → RepK K M H' vt' (hD ns (step h ev)) → RepK K M H' vb' (hD ns g') →
    Rep K M H' v (exD (ev, x)) → OePost ns h es day ev x g' → Q v H'
theorem hD_repK {K : PySem.W.Frag} {M M' : AS} {H H' : Hp} {ns : List Str} {h : Str → Int} : ∀ {vs : List (Key × V)}, RepK K M H vs (hD ns h) → RepK K M' H' vs (hD ns h) := by
  induction ns with
  | nil => intro vs r; cases r; exact .nil
  | cons a r ih =>
    intro vs rr
    cases rr with
    | cons r1 r2 =>
      cases r1
      exact .cons (.int _) (ih r2)
section
variable {P : Program} {w : World} {K : PySem.W.Frag} {mg : Str → Option Value} {base : Heap} {A : Adr}
theorem ok_law_one_event (T : Txt K mg A w) : FnOk P w K mg base CX0 4 A.f_law_one_event A.d_law_one_event ["well", "names", "totals", "bads", "events", "day", "most", "news"] (spOE K) := by
  have G_law_pick := ok_law_pick (P := P) (w := w) (base := base) T
  have G_law_take := ok_law_take (P := P) (w := w) (base := base) T
  have G_law_bounds := ok_law_bounds (P := P) (w := w) (base := base) T
  have G_law_taken := ok_law_taken (P := P) (w := w) (base := base) T
  refine T.F_law_one_event.ok sc_law_one_event (fun vs H Q E h => ?len) (fun cdv Ar outer s H vs Q E hr h => ?body)
  case len => obtain ⟨_, _, _, _, _, _, _, _, _, _, _, _, _, _, _, _, rfl, _⟩ := h; rfl
  case body =>
    have hr_law_pick := hr.mono (k := _) (j := _) (by decide : 2 ≤ 3)
    have hr_law_take := hr.mono (k := _) (j := _) (by decide : 1 ≤ 3)
    have hr_law_bounds := hr.mono (k := _) (j := _) (by decide : 3 ≤ 3)
    have hr_law_taken := hr.mono (k := _) (j := _) (by decide : 3 ≤ 3)
    refine ⟨_, (pss_cons (ps_asg (pe_tup (pa_cons (pe_call G_law_pick hr_law_pick rfl T.m_law_pick T.F_law_pick.kp T.b_law_pick .nil pass0 (pa_cons (pv 0) (pa_cons (pv 1) pa_nil))) (pa_cons (pe_call G_law_take hr_law_take rfl T.m_law_take T.F_law_take.kp T.b_law_take .nil pass0 (pa_cons (pv 0) (pa_cons pe_int pa_nil))) pa_nil))) (show PG _ _ (gTup K _ _) from pg_tup (n := 2) rfl (pgs_cons (pg_name (i := 8) sc_law_one_event.nd rfl (by first | exact Or.inl rfl | exact Or.inr rfl)) (pgs_cons (pg_name (i := 9) sc_law_one_event.nd rfl (by first | exact Or.inl rfl | exact Or.inr rfl)) pgs_nil))))
      (pss_cons (ps_par (i := 10) (j := 11) rfl sc_law_one_event.nd rfl rfl (by decide) rfl rfl (pa_cons (pe_dget (hu_of hr) (pv 2) (pv 8) (fun _ _ => rfl)) (pa_cons (pe_dget (hu_of hr) (pv 3) (pv 8) (fun _ _ => rfl)) pa_nil)) rfl)
      (pss_cons (ps_setLc (i := 12) (own := [("at", 13), ("event", 19)]) rfl sc_law_one_event.nd rfl rfl (sw_true rfl rfl rfl (by decide +kernel)) (pi_enum (by rfl) T.z_enumerate (pa_cons (pv 4) pa_nil)) (blkOk_by (N := ["well", "names", "totals", "bads", "events", "day", "most", "news", "place", "lot", "total", "bad", "pours", "at", "low", "high", "count", "number", "other", "event", "each"]) (sc := defScope s_law_one_event) (by decide +kernel)) (fun _ _ _ _ _ => (show PG _ _ (gTup K _ _) from pg_tup (n := 2) rfl (pgs_cons (pg_name (i := 13) sc_law_one_event.nd rfl (by first | exact Or.inl rfl | exact Or.inr rfl)) (pgs_cons (pg_name (i := 19) sc_law_one_event.nd rfl (by first | exact Or.inl rfl | exact Or.inr rfl)) pgs_nil)))) (fun _ _ _ _ _ => (pts_one (pt_cmpR (show OpR _ _ (rEqU K) from op_eqU hr) (pe_ix (show IxR _ (rIx K) from ix_seq) (pe_ix (show IxR _ (rIx K) from ix_seq) (pv 19) pe_int (fun _ _ => rfl)) pe_int (fun _ _ => rfl)) pe_str (nomark _)))) (fun _ _ _ _ _ => (pv 13)))
      (pss_cons (ps_if (PW.pt (pw_and (pt_cmpR (show OpR _ _ (rEqU K) from op_eqU hr) (pv 9) pe_int (nomark _)) (pw_and (pt_val (pv 7)) (pw_and1 (pt_cmpR (show OpR _ _ (rNeU K) from op_neU hr) (pv 12) (pe_lst pa_nil) (nomark _)))))) (pss_cons (ps_set (i := 13) sc_law_one_event.nd rfl (by first | exact Or.inl rfl | exact Or.inr rfl) (pe_call G_law_pick hr_law_pick rfl T.m_law_pick T.F_law_pick.kp T.b_law_pick .nil pass0 (pa_cons (pv 0) (pa_cons (pv 12) pa_nil))))
      (pss_cons (ps_asg (pe_call G_law_bounds hr_law_bounds rfl T.m_law_bounds T.F_law_bounds.kp T.b_law_bounds .nil pass0 (pa_cons (pv 0) (pa_cons (pe_ix (show IxR _ (rIx K) from ix_seq) (pe_ix (show IxR _ (rIx K) from ix_seq) (pv 4) (pv 13) (fun _ _ => rfl)) pe_int (fun _ _ => rfl)) (pa_cons (pe_ix (show IxR _ (rIx K) from ix_seq) (pe_ix (show IxR _ (rIx K) from ix_seq) (pe_ix (show IxR _ (rIx K) from ix_seq) (pv 4) (pv 13) (fun _ _ => rfl)) pe_int (fun _ _ => rfl)) pe_int (fun _ _ => rfl)) pa_nil)))) (show PG _ _ (gTup K _ _) from pg_tup (n := 2) rfl (pgs_cons (pg_name (i := 14) sc_law_one_event.nd rfl (by first | exact Or.inl rfl | exact Or.inr rfl)) (pgs_cons (pg_name (i := 15) sc_law_one_event.nd rfl (by first | exact Or.inl rfl | exact Or.inr rfl)) pgs_nil))))
      (pss_one (ps_ret (pe_tup (pa_cons (pe_tup (pa_cons pe_str (pa_cons (pv 5) (pa_cons (pv 13) (pa_cons (pv 14) (pa_cons (pv 15) pa_nil)))))) (pa_cons (pe_ix (show IxR _ (rIx K) from ix_seq) (pe_ix (show IxR _ (rIx K) from ix_seq) (pv 4) (pv 13) (fun _ _ => rfl)) pe_int (fun _ _ => rfl)) pa_nil))))))) pss_nil)
      (pss_cons (ps_if (PW.pt (pw_and (pt_cmpR (show OpR _ _ (rEqU K) from op_eqU hr) (pv 9) pe_int (nomark _)) (pw_and1 (pt_val (pv 7))))) (pss_cons (ps_asg (pe_call G_law_bounds hr_law_bounds rfl T.m_law_bounds T.F_law_bounds.kp T.b_law_bounds .nil pass0 (pa_cons (pv 0) (pa_cons (pv 11) (pa_cons (pv 10) pa_nil)))) (show PG _ _ (gTup K _ _) from pg_tup (n := 2) rfl (pgs_cons (pg_name (i := 14) sc_law_one_event.nd rfl (by first | exact Or.inl rfl | exact Or.inr rfl)) (pgs_cons (pg_name (i := 15) sc_law_one_event.nd rfl (by first | exact Or.inl rfl | exact Or.inr rfl)) pgs_nil))))
      (pss_one (ps_ret (pe_tup (pa_cons (pe_tup (pa_cons pe_str (pa_cons (pv 5) (pa_cons (pv 8) (pa_cons (pv 14) (pa_cons (pv 15) pa_nil)))))) (pa_cons (pv 11) pa_nil)))))) pss_nil)
      (pss_cons (ps_if (PW.pt (pw_or (pt_cmpR op_ltU (pv 9) pe_int (nomark _)) (pw_or1 (pt_cmpR (show OpR _ _ (rEqU K) from op_eqU hr) (pv 10) pe_int (nomark _))))) (pss_cons (ps_set (i := 16) sc_law_one_event.nd rfl (by first | exact Or.inl rfl | exact Or.inr rfl) (pe_call G_law_pick hr_law_pick rfl T.m_law_pick T.F_law_pick.kp T.b_law_pick .nil pass0 (pa_cons (pv 0) (pa_cons (pe_lst (pa_cons (pe_op (show OpR _ _ (rAddU K) from op_addU) pe_int (pe_call G_law_take hr_law_take rfl T.m_law_take T.F_law_take.kp T.b_law_take .nil pass0 (pa_cons (pv 0) (pa_cons (pv 6) pa_nil)))) (pa_cons (pv 6) (pa_cons pe_int pa_nil)))) pa_nil))))
      (pss_cons (ps_set (i := 17) sc_law_one_event.nd rfl (by first | exact Or.inl rfl | exact Or.inr rfl) (pe_call G_law_take hr_law_take rfl T.m_law_take T.F_law_take.kp T.b_law_take .nil pass0 (pa_cons (pv 0) (pa_cons (pe_op (show OpR _ _ (rAddU K) from op_addU) (pv 16) pe_int) pa_nil))))
      (pss_cons (ps_asg (pe_call G_law_bounds hr_law_bounds rfl T.m_law_bounds T.F_law_bounds.kp T.b_law_bounds .nil pass0 (pa_cons (pv 0) (pa_cons (pv 17) (pa_cons (pv 16) pa_nil)))) (show PG _ _ (gTup K _ _) from pg_tup (n := 2) rfl (pgs_cons (pg_name (i := 14) sc_law_one_event.nd rfl (by first | exact Or.inl rfl | exact Or.inr rfl)) (pgs_cons (pg_name (i := 15) sc_law_one_event.nd rfl (by first | exact Or.inl rfl | exact Or.inr rfl)) pgs_nil))))
      (pss_cons (ps_asg (pe_tup (pa_cons (pe_op (show OpR _ _ (rAddU K) from op_addU) (pv 10) (pv 16)) (pa_cons (pe_op (show OpR _ _ (rAddU K) from op_addU) (pv 11) (pv 17)) pa_nil))) (show PG _ _ (gTup K _ _) from pg_tup (n := 2) rfl (pgs_cons (pg_sub (pv 2) (pv 8) (set_dict (hu_of hr))) (pgs_cons (pg_sub (pv 3) (pv 8) (set_dict (hu_of hr))) pgs_nil))))
      (pss_one (ps_ret (pe_tup (pa_cons (pe_tup (pa_cons pe_str (pa_cons (pv 5) (pa_cons (pv 8) (pa_cons (pv 16) (pa_cons (pv 14) (pa_cons (pv 15) pa_nil))))))) (pa_cons (pv 17) pa_nil))))))))) pss_nil)
      (pss_cons (ps_asg (pe_call G_law_taken hr_law_taken rfl T.m_law_taken T.F_law_taken.kp T.b_law_taken .nil pass0 (pa_cons (pv 0) (pa_cons (pv 10) (pa_cons (pv 11) pa_nil)))) (show PG _ _ (gTup K _ _) from pg_tup (n := 2) rfl (pgs_cons (pg_name (i := 16) sc_law_one_event.nd rfl (by first | exact Or.inl rfl | exact Or.inr rfl)) (pgs_cons (pg_name (i := 17) sc_law_one_event.nd rfl (by first | exact Or.inl rfl | exact Or.inr rfl)) pgs_nil))))
      (pss_cons (ps_asg (pe_tup (pa_cons (pe_op op_sub (pv 10) (pv 16)) (pa_cons (pe_op op_sub (pv 11) (pv 17)) pa_nil))) (show PG _ _ (gTup K _ _) from pg_tup (n := 2) rfl (pgs_cons (pg_sub (pv 2) (pv 8) (set_dict (hu_of hr))) (pgs_cons (pg_sub (pv 3) (pv 8) (set_dict (hu_of hr))) pgs_nil))))
      (pss_cons (ps_if (PW.pt (pw_and (pt_cmpR (show OpR _ _ (rEqU K) from op_eqU hr) (pv 9) pe_int (nomark _)) (pw_and1 (pt_val (pv 7))))) (pss_cons (ps_asg (pe_call G_law_bounds hr_law_bounds rfl T.m_law_bounds T.F_law_bounds.kp T.b_law_bounds .nil pass0 (pa_cons (pv 0) (pa_cons (pv 17) (pa_cons (pv 16) pa_nil)))) (show PG _ _ (gTup K _ _) from pg_tup (n := 2) rfl (pgs_cons (pg_name (i := 14) sc_law_one_event.nd rfl (by first | exact Or.inl rfl | exact Or.inr rfl)) (pgs_cons (pg_name (i := 15) sc_law_one_event.nd rfl (by first | exact Or.inl rfl | exact Or.inr rfl)) pgs_nil))))
      (pss_one (ps_ret (pe_tup (pa_cons (pe_tup (pa_cons pe_str (pa_cons (pv 5) (pa_cons (pv 8) (pa_cons (pv 16) (pa_cons (pv 14) (pa_cons (pv 15) pa_nil))))))) (pa_cons (pv 17) pa_nil)))))) pss_nil)
      (pss_cons (ps_if (PW.pt (pw_and (pt_cmpR op_ltU (pv 9) pe_int (nomark _)) (pw_and1 (pt_cmpR op_gt (pe_callB (show CallR _ _ (rLenU K) from call_lenU) (by rfl) T.z_len PySem.boot_len (pa_cons (pv 1) pa_nil)) pe_int (nomark _))))) (pss_cons (ps_set (i := 18) sc_law_one_event.nd rfl (by first | exact Or.inl rfl | exact Or.inr rfl) (pe_call G_law_pick hr_law_pick rfl T.m_law_pick T.F_law_pick.kp T.b_law_pick .nil pass0 (pa_cons (pv 0) (pa_cons (pe_lc (own := [("each", 20)]) rfl sc_law_one_event.nd (pi_list (pv 1)) (blkOk_by (N := ["well", "names", "totals", "bads", "events", "day", "most", "news", "place", "lot", "total", "bad", "pours", "at", "low", "high", "count", "number", "other", "event", "each"]) (sc := defScope s_law_one_event) (by decide +kernel)) (fun _ _ _ _ _ => (pg_name (i := 20) sc_law_one_event.nd rfl (by first | exact Or.inl rfl | exact Or.inr rfl))) (fun _ _ _ _ _ => (pts_one (pt_cmpR (show OpR _ _ (rNeU K) from op_neU hr) (pv 20) (pv 8) (nomark _)))) (fun _ _ _ _ _ => (pv 20))) pa_nil))))
      (pss_cons (ps_asg (pe_tup (pa_cons (pe_op (show OpR _ _ (rAddU K) from op_addU) (pe_dget (hu_of hr) (pv 2) (pv 18) (fun _ _ => rfl)) (pv 16)) (pa_cons (pe_op (show OpR _ _ (rAddU K) from op_addU) (pe_dget (hu_of hr) (pv 3) (pv 18) (fun _ _ => rfl)) (pv 17)) pa_nil))) (show PG _ _ (gTup K _ _) from pg_tup (n := 2) rfl (pgs_cons (pg_sub (pv 2) (pv 18) (set_dict (hu_of hr))) (pgs_cons (pg_sub (pv 3) (pv 18) (set_dict (hu_of hr))) pgs_nil))))
      (pss_one (ps_ret (pe_tup (pa_cons (pe_tup (pa_cons pe_str (pa_cons (pv 5) (pa_cons (pv 8) (pa_cons (pv 18) (pa_cons (pv 16) pa_nil)))))) (pa_cons (pv 17) pa_nil))))))) pss_nil)
      (pss_one (ps_ret (pe_tup (pa_cons (pe_tup (pa_cons pe_str (pa_cons (pv 5) (pa_cons (pv 8) (pa_cons (pv 16) pa_nil))))) (pa_cons (pv 17) pa_nil)))))))))))))))
, ?_⟩
    obtain ⟨ns, h, g, es, day, most, news, w0, t, b, v1, v4, M, W, vt, vb, rfl, st, hw, nt, nb, ntb, ht, hb, rt, rb, r1, r4, pre, k⟩ := h
    let B : Z.Act := ⟨M, W, fun a => if a = t ∨ a = b then none else H a⟩
    let M1 : AS := fun a => M a ∨ (a = t ∨ a = b)
    have nd1 : ∀ {a : Addr} {o : HO}, H a = some o → (∀ kvs, o ≠ .dK kvs) → ¬ (a = t ∨ a = b) := fun e n q => by
      rcases q with rfl | rfl
      · rw [ht] at e; exact n _ (Option.some.inj e).symm
      · rw [hb] at e; exact n _ (Option.some.inj e).symm
    have nwt : ∀ a, W a → ¬ (a = t ∨ a = b) := fun a wa => by
      obtain ⟨x, y, z, e, _⟩ := st.2.2 a wa
      exact nd1 e fun kvs q => by cases q
    have gB : ∀ a, ¬ (a = t ∨ a = b) → B.G a = H a := fun a n => if_neg n
    have hM1 : ∀ a, M1 a → M a ∨ ∀ xs, H a ≠ some (.tup xs) := fun a m => m.imp id fun q xs e => nd1 e (fun kvs z => by cases z) q
    have rr1 : Rep K M1 H v1 (.lst (ns.map D.str)) := by
      cases r1 with
      | lst ha n rl => exact .lst ha (fun m => m.elim n (nd1 ha fun kvs z => by cases z)) (rl.flat fun y hy => by obtain ⟨z, _, rfl⟩ := List.mem_map.mp hy; trivial)
    have rr4 : Rep K M1 H v4 (.lst (es.map exD)) := by
      cases r4 with
      | lst ha n rl => exact .lst ha (fun m => m.elim n (nd1 ha fun kvs z => by cases z)) (RepL.tupF2 (f := fun p : Ev × Int => evL p.1) (g := fun p => D.int p.2) (fun p => evL_flat p.1) (fun p => trivial) hM1 rl)
    let σ0 : L2.St := [some (.ref w0), some v1, some (.ref t), some (.ref b), some v4, some (.int day), some (.int most), some (.bl news), none, none, none, none, none, none, none, none, none, none, none, none, none]
    let δ0 : Sl := [some .well, some (.dat (.lst (ns.map D.str))), some (.ownD (hD ns h)), some (.ownD (hD ns g)), some (.dat (.lst (es.map exD))), some (.dat (.int day)), some (.dat (.int most)), some (.dat (.bl news)), none, none, none, none, none, none, none, none, none, none, none, none, none]
    have S0 : Sat K B M1 H σ0 δ0 := by
      refine ⟨fun i av e => ?_, fun i j av bv a hne ei ej oi oj si sj => ?_, rfl, fun a m => ?_, fun a m => .inl m, st.1, fun a m => ?_, st.2.2, fun a wa => ?_, ⟨fun a o n e => ?_, fun a wa _ => st.2.2 a wa⟩⟩
      · match i, e with
        | 0, e => cases e; exact ⟨_, rfl, w0, rfl, hw⟩
        | 1, e => cases e; exact ⟨_, rfl, rr1⟩
        | 2, e => cases e; exact ⟨_, rfl, t, vt, rfl, .inr (.inl rfl), if_pos (.inl rfl), ht, hD_repK rt⟩
        | 3, e => cases e; exact ⟨_, rfl, b, vb, rfl, .inr (.inr rfl), if_pos (.inr rfl), hb, hD_repK rb⟩
        | 4, e => cases e; exact ⟨_, rfl, rr4⟩
        | 5, e => cases e; exact ⟨_, rfl, .int _⟩
        | 6, e => cases e; exact ⟨_, rfl, .int _⟩
        | 7, e => cases e; exact ⟨_, rfl, .bl _⟩
        | i + 8, e =>
          exfalso
          have : ∀ n : Nat, (List.replicate 13 (none : Option AV))[n]? ≠ some (some av) := fun n q => by
            have := List.mem_of_getElem? q
            simp at this
          exact this i e
      · have io : ∀ (i : Nat) (av : AV), δ0[i]? = some (some av) → isOwn av = true → i = 2 ∨ i = 3 := fun i av e o => by
          match i, e with
          | 0, e => cases e; cases o
          | 1, e => cases e; cases o
          | 2, e => exact .inl rfl
          | 3, e => exact .inr rfl
          | 4, e => cases e; cases o
          | 5, e => cases e; cases o
          | 6, e => cases e; cases o
          | 7, e => cases e; cases o
          | i + 8, e =>
            exfalso
            have : ∀ n : Nat, (List.replicate 13 (none : Option AV))[n]? ≠ some (some av) := fun n q => by
              have := List.mem_of_getElem? q
              simp at this
            exact this i e
        rcases io i av ei oi with rfl | rfl <;> rcases io j bv ej oj with rfl | rfl
        · exact hne rfl
        · cases si; cases sj; exact ntb rfl
        · cases si; cases sj; exact ntb rfl
        · exact hne rfl
      · rcases m with m | rfl | rfl
        · exact st.2.1 a m
        · rw [ht]; intro z; cases z
        · rw [hb]; intro z; cases z
      · show (if a = t ∨ a = b then none else H a) ≠ none
        rw [if_neg fun q => q.elim (fun e => nt (e ▸ m)) fun e => nb (e ▸ m)]
        exact st.2.1 a m
      · obtain ⟨x, y, z, e, q⟩ := st.2.2 a wa
        exact ⟨x, y, z, (gB a (nwt a wa)).trans e, q⟩
      · have e : (if a = t ∨ a = b then none else H a) = some o := e
        by_cases q : a = t ∨ a = b
        · rw [if_pos q] at e; cases e
        · rw [if_neg q] at e; exact e
    refine (show WS2 K [2, 3] _ δ0 (fun _ => False) (oeRt ns h es day) from ?ws) B M1 H σ0 S0 _ (fun _ _ _ _ _ _ _ z => z.elim) fun M' H' σ' δ' v d ex S' kp rd ⟨ev, x, g', ed, e2, e3, post⟩ => ?fin
    case fin =>
      subst ed
      obtain ⟨u2, q2, a2, vt', z2, m2, g2, h2, k2⟩ := S'.slot 2 _ e2
      obtain ⟨u3, q3, a3, vb', z3, m3, g3, h3, k3⟩ := S'.slot 3 _ e3
      rw [kp 2 (by simp)] at q2
      rw [kp 3 (by simp)] at q3
      cases q2
      cases q3
      cases z2
      cases z3
      refine k v H' ev x g' vt' vb' (fun a o n1 n2 nw e => ?_) S'.wel h2 h3 (hD_repK k2) (hD_repK k3) rd post
      exact S'.fr.kp a o nw ((gB a fun q => q.elim n1 n2).trans e)
    case ws =>
      have nd := pre.nd
      have n12 := pre.n12
      have few := pre.few
      have tot := pre.tot
      refine ws2_seq (ws2_asg (wr_name2 8 9) (mono_name2 8 9) (by simp) ?_)
      refine we_tup ?_
      refine wa_cons ?_
      refine we_call ?_
      refine wa_well rfl ?_
      refine wa_cons ?_
      refine we_var rfl ?_
      refine wa_nil ?_
      refine ⟨_, _, rfl, .inl rfl, by rw [List.length_map]; exact pre.n1, by rw [List.length_map]; omega, fun d hd => ?_⟩
      obtain ⟨p, hp, rfl⟩ := List.mem_map.mp hd
      refine wa_cons ?_
      refine we_call ?_
      refine wa_well rfl ?_
      refine wa_cons ?_
      refine we_int ?_
      refine wa_nil ?_
      refine ⟨10, rfl, by omega, by omega, fun lot l0 l1 => ?_⟩
      refine wa_nil ?_
      refine ⟨by show 2 ≤ 100000; decide, _, rfl, ?_⟩
      refine wg_tup rfl (wgs_cons (wg_name (wgs_cons (wg_name (wgs_nil ?_)))))
      refine ws2_seq (ws2_par (by simp) (by simp) (wp_dat (we_up (we_dget (we_varD rfl ⟨_, rfl, we_var rfl ⟨Sum.inr p, _, rfl, hD_val hp, trivial, ?_⟩⟩)))))
      refine wp_dat (we_up (we_dget (we_varD rfl ⟨_, rfl, we_var rfl ⟨Sum.inr p, _, rfl, hD_val hp, trivial, wp_nil ⟨_, _, rfl, ?_⟩⟩⟩)))
      have hle := tot.le hp
      have gle := tot.nn p hp
      refine ws2_seq (ws2_asg (wr_name 12) (mono_name 12) (by simp) (we_lcX (wr_name2 13 19) (mono_name2 13 19) (by simp) (wi_enumL (wa_cons (we_var rfl (wa_nil ⟨_, rfl, ?_⟩))))))
      refine ⟨Nat, List.range es.length, fun i => .tup [.int (i : Int), (es.map exD).getD i .non], fun i => if pB es i = true then some (.int (i : Int)) else none, by unfold enumD; rw [List.length_map], by rw [List.length_range]; omega, fun i hi => ?_, ?_⟩
      · have hl := List.mem_range.mp hi
        have he : es[i]? = some es[i] := List.getElem?_eq_getElem hl
        have hg : (es.map exD).getD i .non = exD es[i] := by rw [List.getD_eq_getElem?_getD, List.getElem?_map, he]; rfl
        have pe : pB es i = es[i].1.isPour := by unfold pB; rw [he]
        dsimp only
        rw [hg]
        refine wg_tup rfl (wgs_cons (wg_name (wgs_cons (wg_name (wgs_nil (wt_test ?_))))))
        refine we_op ?_
        refine we_op ?_
        refine we_op ?_
        refine we_var rfl ?_
        refine we_int ?_
        refine os_ix_tup rfl ?_
        refine we_int ?_
        refine os_ix_tup (ev_kind es[i].1) ?_
        refine we_str ?_
        refine os_eq_str ?_
        rw [kind_pour, ← pe]
        exact ⟨_, rfl, fun e => we_var rfl (if_pos e), fun e => if_neg (by rw [e]; exact Bool.false_ne_true)⟩
      rw [fm_if, show (List.range es.length).filter (pB es) = pourIx es from rfl]
      refine wg_name ?_
      -- a doubt
      refine ws2_seq (ws2_ifN (wt_and (wt_test ?_)) ?_)
      · refine we_op ?_
        refine we_var rfl ?_
        refine we_int ?_
        refine os_eq_int ?_
        refine ⟨_, rfl, fun _ => wt_and (wt_B (we_var rfl ⟨_, rfl, fun _ => wt_test ?_, fun _ => ft⟩)), fun _ => ft⟩
        refine we_op ?_
        refine we_var rfl ?_
        refine we_lst ?_
        refine wa_nil ?_
        refine ⟨Nat.le_of_ble_eq_true rfl, _, rfl, os_ne_nilL (fun j : Nat => D.int (j : Int)) (fun j => PyData.int (j : Int)) (fun _ _ => int_to _) (fun _ _ => int_can _) ⟨_, rfl, fun e => ?_⟩⟩
        have ne : pourIx es ≠ [] := by simpa using e
        refine ws2_seq (ws2_asg (wr_name 13) (mono_name 13) (by simp) ?_)
        refine we_call ?_
        refine wa_well rfl ?_
        refine wa_cons ?_
        refine we_var rfl ?_
        refine wa_nil ?_
        refine ⟨_, _, rfl, .inl rfl, by rw [List.length_map]; exact List.length_pos_iff.mpr ne, ?_, fun d hd => ?_⟩
        · rw [List.length_map]
          have := List.length_filter_le (pB es) (List.range es.length)
          rw [List.length_range] at this
          show ((List.range es.length).filter (pB es)).length ≤ _
          omega
        obtain ⟨i, hi, rfl⟩ := List.mem_map.mp hd
        obtain ⟨dd, pp, n, lo0, hi0, x, he⟩ := mem_pourIx hi
        have le : L2.atI (es.map exD) (i : Int) = some (exD (.pour dd pp n lo0 hi0, x)) := Z.atI_nat (by rw [List.getElem?_map, he]; rfl)
        obtain ⟨x0, xn, n9⟩ := pre.pr i _ _ _ _ _ _ he
        refine wg_name (ws2_seq (ws2_asg (wr_name2 14 15) (mono_name2 14 15) (by simp) ?_))
        refine we_call ?_
        refine wa_well rfl ?_
        refine wa_cons ?_
        refine we_op ?_
        refine we_op ?_
        refine we_var rfl ?_
        refine we_var rfl ?_
        refine os_ix_lst le ?_
        refine we_int ?_
        refine os_ix_tup rfl ?_
        refine wa_cons ?_
        refine we_op ?_
        refine we_op ?_
        refine we_op ?_
        refine we_var rfl ?_
        refine we_var rfl ?_
        refine os_ix_lst le ?_
        refine we_int ?_
        refine os_ix_tup rfl ?_
        refine we_int ?_
        refine os_ix_tup rfl ?_
        refine wa_nil ?_
        refine ⟨x, n, rfl, x0, xn, by omega, fun lo hi a1 a2 a3 a4 => ?_⟩
        refine wg_tup rfl (wgs_cons (wg_name (wgs_cons (wg_name (wgs_nil (ws2_ret ?_))))))
        refine we_tup ?_
        refine wa_cons ?_
        refine we_tup ?_
        refine wa_cons ?_
        refine we_str ?_
        refine wa_cons ?_
        refine we_var rfl ?_
        refine wa_cons ?_
        refine we_var rfl ?_
        refine wa_cons ?_
        refine we_var rfl ?_
        refine wa_cons ?_
        refine we_var rfl ?_
        refine wa_nil ?_
        refine ⟨by show 5 ≤ 100000; decide, _, rfl, ?_⟩
        refine wa_cons ?_
        refine we_op ?_
        refine we_op ?_
        refine we_var rfl ?_
        refine we_var rfl ?_
        refine os_ix_lst le ?_
        refine we_int ?_
        refine os_ix_tup rfl ?_
        refine wa_nil ?_
        refine ⟨by show 2 ≤ 100000; decide, _, rfl, ?_⟩
        refine ⟨.doubt day i lo hi, x, g, rfl, rfl, rfl, ⟨⟨dd, pp, n, lo0, hi0, by rw [List.getElem?_map, he]; rfl, a1, by omega, a4⟩, rfl, tot.succ, nofun⟩⟩
      -- a look
      refine ws2_seq (ws2_ifN (wt_and (wt_test ?_)) ?_)
      · refine we_op ?_
        refine we_var rfl ?_
        refine we_int ?_
        refine os_eq_int ?_
        refine ⟨_, rfl, fun _ => wt_B (we_var rfl ⟨_, rfl, fun _ => ?_⟩), fun _ => ft⟩
        refine ws2_seq (ws2_asg (wr_name2 14 15) (mono_name2 14 15) (by simp) ?_)
        refine we_call ?_
        refine wa_well rfl ?_
        refine wa_cons ?_
        refine we_var rfl ?_
        refine wa_cons ?_
        refine we_var rfl ?_
        refine wa_nil ?_
        refine ⟨g p, h p, rfl, gle.1, gle.2, by omega, fun lo hi a1 a2 a3 a4 => ?_⟩
        refine wg_tup rfl (wgs_cons (wg_name (wgs_cons (wg_name (wgs_nil (ws2_ret ?_))))))
        refine we_tup ?_
        refine wa_cons ?_
        refine we_tup ?_
        refine wa_cons ?_
        refine we_str ?_
        refine wa_cons ?_
        refine we_var rfl ?_
        refine wa_cons ?_
        refine we_var rfl ?_
        refine wa_cons ?_
        refine we_var rfl ?_
        refine wa_cons ?_
        refine we_var rfl ?_
        refine wa_nil ?_
        refine ⟨by show 5 ≤ 100000; decide, _, rfl, ?_⟩
        refine wa_cons ?_
        refine we_var rfl ?_
        refine wa_nil ?_
        refine ⟨by show 2 ≤ 100000; decide, _, rfl, ?_⟩
        refine ⟨.look day p lo hi, g p, g, rfl, rfl, rfl, ⟨⟨hp, a1, by omega, a4⟩, rfl, tot.succ, nofun⟩⟩
      -- a pour
      refine ws2_seq (ws2_if (WT.imp (Φ := fun c => c = false → 1 ≤ h p) ?_ fun c hc => ⟨fun _ => ?_, fun e => ws2_next ?_⟩))
      · refine wt_or (wt_test ?_)
        refine we_op ?_
        refine we_var rfl ?_
        refine we_int ?_
        refine os_lt_int ?_
        refine ⟨_, rfl, fun _ => nofun, fun _ => wt_test ?_⟩
        refine we_op ?_
        refine we_var rfl ?_
        refine we_int ?_
        refine os_eq_int ?_
        exact ⟨_, rfl, fun e => by have := of_decide_eq_false e; omega⟩
      · have m1 := pre.m1
        have m9 := pre.m9
        refine ws2_seq (ws2_asg (wr_name 16) (mono_name 16) (by simp) ?_)
        refine we_call ?_
        refine wa_well rfl ?_
        refine wa_cons ?_
        refine we_lst ?_
        refine wa_cons ?_
        refine we_op ?_
        refine we_int ?_
        refine we_call ?_
        refine wa_well rfl ?_
        refine wa_cons ?_
        refine we_var rfl ?_
        refine wa_nil ?_
        refine ⟨most, rfl, by omega, by omega, fun y y0 y1 => ?_⟩
        refine os_add_int ?_
        refine wa_cons ?_
        refine we_var rfl ?_
        refine wa_cons ?_
        refine we_int ?_
        refine wa_nil ?_
        refine ⟨by show 3 ≤ 100000; decide, _, rfl, ?_⟩
        refine wa_nil ?_
        refine ⟨_, _, rfl, .inl rfl, by show 0 < 3; decide, by show 3 ≤ 1000; decide, fun d hd => ?_⟩
        obtain ⟨c, rfl, c1, c9⟩ : ∃ c : Int, d = .int c ∧ 1 ≤ c ∧ c ≤ 999 := by
          simp only [List.mem_cons, List.not_mem_nil, or_false] at hd
          rcases hd with rfl | rfl | rfl
          · exact ⟨_, rfl, by omega, by omega⟩
          · exact ⟨_, rfl, by omega, by omega⟩
          · exact ⟨_, rfl, by omega, by omega⟩
        refine wg_name (ws2_seq (ws2_asg (wr_name 17) (mono_name 17) (by simp) ?_))
        refine we_call ?_
        refine wa_well rfl ?_
        refine wa_cons ?_
        refine we_op ?_
        refine we_var rfl ?_
        refine we_int ?_
        refine os_add_int ?_
        refine wa_nil ?_
        refine ⟨c + 1, rfl, by omega, by omega, fun n n0 n1 => ?_⟩
        refine wg_name (ws2_seq (ws2_asg (wr_name2 14 15) (mono_name2 14 15) (by simp) ?_))
        refine we_call ?_
        refine wa_well rfl ?_
        refine wa_cons ?_
        refine we_var rfl ?_
        refine wa_cons ?_
        refine we_var rfl ?_
        refine wa_nil ?_
        refine ⟨n, c, rfl, n0, by omega, by omega, fun lo hi a1 a2 a3 a4 => ?_⟩
        refine wg_tup rfl (wgs_cons (wg_name (wgs_cons (wg_name (wgs_nil ?_)))))
        refine ws2_seq (ws2_put2 ?_)
        refine we_tup ?_
        refine wa_cons ?_
        refine we_op ?_
        refine we_var rfl ?_
        refine we_var rfl ?_
        refine os_add_int ?_
        refine wa_cons ?_
        refine we_op ?_
        refine we_var rfl ?_
        refine we_var rfl ?_
        refine os_add_int ?_
        refine wa_nil ?_
        refine ⟨by show 2 ≤ 100000; decide, _, rfl, ?_⟩
        refine ⟨_, _, _, _, p, p, rfl, trivial, trivial, by decide, rfl, rfl, by rw [hD_len]; omega, by rw [hD_len]; omega, rfl, rfl, ?_⟩
        rw [hD_put hp, hD_put hp]
        refine ws2_ret ?_
        refine we_tup ?_
        refine wa_cons ?_
        refine we_tup ?_
        refine wa_cons ?_
        refine we_str ?_
        refine wa_cons ?_
        refine we_var rfl ?_
        refine wa_cons ?_
        refine we_var rfl ?_
        refine wa_cons ?_
        refine we_var rfl ?_
        refine wa_cons ?_
        refine we_var rfl ?_
        refine wa_cons ?_
        refine we_var rfl ?_
        refine wa_nil ?_
        refine ⟨by show 6 ≤ 100000; decide, _, rfl, ?_⟩
        refine wa_cons ?_
        refine we_var rfl ?_
        refine wa_nil ?_
        refine ⟨by show 2 ≤ 100000; decide, _, rfl, ?_⟩
        refine ⟨.pour day p c lo hi, n, _, rfl, rfl, rfl, ⟨⟨hp, c1, c9, a1, by omega, a4⟩, rfl, tot.add nd hp c9 (by omega) (by omega), fun d' p' n' lo' hi' e => ?_⟩⟩
        cases e
        omega
      have hp1 := hc e
      -- something is taken
      refine ws2_seq (ws2_asg (wr_name2 16 17) (mono_name2 16 17) (by simp) ?_)
      refine we_call ?_
      refine wa_well rfl ?_
      refine wa_cons ?_
      refine we_var rfl ?_
      refine wa_cons ?_
      refine we_var rfl ?_
      refine wa_nil ?_
      refine ⟨h p, g p, rfl, hp1, by omega, gle.1, gle.2, fun c n c1 c2 n0 n1 n2 n3 => ?_⟩
      refine wg_tup rfl (wgs_cons (wg_name (wgs_cons (wg_name (wgs_nil ?_)))))
      refine ws2_seq (ws2_put2 ?_)
      refine we_tup ?_
      refine wa_cons ?_
      refine we_op ?_
      refine we_var rfl ?_
      refine we_var rfl ?_
      refine os_sub ?_
      refine wa_cons ?_
      refine we_op ?_
      refine we_var rfl ?_
      refine we_var rfl ?_
      refine os_sub ?_
      refine wa_nil ?_
      refine ⟨by show 2 ≤ 100000; decide, _, rfl, ?_⟩
      refine ⟨_, _, _, _, p, p, rfl, trivial, trivial, by decide, rfl, rfl, by rw [hD_len]; omega, by rw [hD_len]; omega, rfl, rfl, ?_⟩
      rw [Int.sub_eq_add_neg, Int.sub_eq_add_neg, hD_put hp, hD_put hp]
      have tk : Tot ns (up h p (-c)) (up g p (-n)) (es.length + 1) := tot.add nd hp (by omega) (by omega) (by omega)
      -- a sample
      refine ws2_seq (ws2_ifN (wt_and (wt_test ?_)) ?_)
      · refine we_op ?_
        refine we_var rfl ?_
        refine we_int ?_
        refine os_eq_int ?_
        refine ⟨_, rfl, fun _ => wt_B (we_var rfl ⟨_, rfl, fun _ => ?_⟩), fun _ => ft⟩
        refine ws2_seq (ws2_asg (wr_name2 14 15) (mono_name2 14 15) (by simp) ?_)
        refine we_call ?_
        refine wa_well rfl ?_
        refine wa_cons ?_
        refine we_var rfl ?_
        refine wa_cons ?_
        refine we_var rfl ?_
        refine wa_nil ?_
        refine ⟨n, c, rfl, n0, n1, by omega, fun lo hi a1 a2 a3 a4 => ?_⟩
        refine wg_tup rfl (wgs_cons (wg_name (wgs_cons (wg_name (wgs_nil (ws2_ret ?_))))))
        refine we_tup ?_
        refine wa_cons ?_
        refine we_tup ?_
        refine wa_cons ?_
        refine we_str ?_
        refine wa_cons ?_
        refine we_var rfl ?_
        refine wa_cons ?_
        refine we_var rfl ?_
        refine wa_cons ?_
        refine we_var rfl ?_
        refine wa_cons ?_
        refine we_var rfl ?_
        refine wa_cons ?_
        refine we_var rfl ?_
        refine wa_nil ?_
        refine ⟨by show 6 ≤ 100000; decide, _, rfl, ?_⟩
        refine wa_cons ?_
        refine we_var rfl ?_
        refine wa_nil ?_
        refine ⟨by show 2 ≤ 100000; decide, _, rfl, ?_⟩
        refine ⟨.sample day p c lo hi, n, _, rfl, rfl, rfl, ⟨⟨hp, c1, c2, a1, by omega, a4⟩, rfl, tk, nofun⟩⟩
      -- a move
      refine ws2_seq (ws2_ifN (wt_and (wt_test ?_)) ?_)
      · refine we_op ?_
        refine we_var rfl ?_
        refine we_int ?_
        refine os_lt_int ?_
        refine ⟨_, rfl, fun _ => wt_test ?_, fun _ => ft⟩
        refine we_op ?_
        refine we_cb ?_
        refine wa_cons ?_
        refine we_var rfl ?_
        refine wa_nil ?_
        refine cs_len rfl ?_
        refine we_int ?_
        refine os_gt ?_
        refine ⟨_, rfl, fun e2 => ?_⟩
        rw [List.length_map] at e2
        have l2 := of_decide_eq_true e2
        refine ws2_seq (ws2_asg (wr_name 18) (mono_name 18) (by simp) ?_)
        refine we_call ?_
        refine wa_well rfl ?_
        refine wa_cons ?_
        refine we_lcX (wr_name 20) (mono_name 20) (by simp) (wi_list (we_var rfl ⟨_, rfl, Str, ns, D.str, fun z => if (!decide (z = p)) = true then some (.str z) else none, rfl, by omega, fun z hz => ?_, ?_⟩))
        · refine wg_name (wt_test ?_)
          refine we_op ?_
          refine we_var rfl ?_
          refine we_var rfl ?_
          refine os_ne_str ?_
          exact ⟨_, rfl, fun e => we_var rfl (if_pos e), fun e => if_neg (by rw [e]; exact Bool.false_ne_true)⟩
        rw [fm_if]
        have hpos : 0 < (ns.filter fun z => !decide (z = p)).length := by
          rcases Nat.eq_zero_or_pos (ns.filter fun z => !decide (z = p)).length with z0 | z0
          · exfalso
            have z1 := List.length_eq_zero_iff.mp z0
            have : ∀ z ∈ ns, z ∈ [p] := fun z hz => by
              by_cases e : z = p
              · exact List.mem_singleton.mpr e
              · have : z ∈ ns.filter fun z => !decide (z = p) := List.mem_filter.mpr ⟨hz, by simpa using e⟩
                rw [z1] at this; cases this
            have := nd_len nd this
            simp at this
            omega
          · exact z0
        refine wa_nil ⟨_, _, rfl, .inl rfl, by rw [List.length_map]; exact hpos, ?_, fun d hd => ?_⟩
        · rw [List.length_map]
          have := List.length_filter_le (fun z => !decide (z = p)) ns
          omega
        obtain ⟨q, hq, rfl⟩ := List.mem_map.mp hd
        obtain ⟨hqm, hqp⟩ := List.mem_filter.mp hq
        have hqp : q ≠ p := by simpa using hqp
        refine wg_name (ws2_seq (ws2_put2 ?_))
        refine we_tup (wa_cons (we_up (we_op (we_dget (we_varD rfl ⟨_, rfl, we_var rfl ⟨Sum.inr q, _, rfl, hD_val hqm, we_var rfl (os_add_int ⟨trivial, ?_⟩)⟩⟩)))))
        refine wa_cons (we_up (we_op (we_dget (we_varD rfl ⟨_, rfl, we_var rfl ⟨Sum.inr q, _, rfl, hD_val hqm, we_var rfl (os_add_int ⟨trivial, ?_⟩)⟩⟩))))
        refine wa_nil ?_
        refine ⟨by show 2 ≤ 100000; decide, _, rfl, ?_⟩
        refine ⟨_, _, _, _, q, q, rfl, trivial, trivial, by decide, rfl, rfl, by rw [hD_len]; omega, by rw [hD_len]; omega, rfl, rfl, ?_⟩
        rw [hD_put hqm, hD_put hqm]
        refine ws2_ret ?_
        refine we_tup ?_
        refine wa_cons ?_
        refine we_tup ?_
        refine wa_cons ?_
        refine we_str ?_
        refine wa_cons ?_
        refine we_var rfl ?_
        refine wa_cons ?_
        refine we_var rfl ?_
        refine wa_cons ?_
        refine we_var rfl ?_
        refine wa_cons ?_
        refine we_var rfl ?_
        refine wa_nil ?_
        refine ⟨by show 5 ≤ 100000; decide, _, rfl, ?_⟩
        refine wa_cons ?_
        refine we_var rfl ?_
        refine wa_nil ?_
        refine ⟨by show 2 ≤ 100000; decide, _, rfl, ?_⟩
        refine ⟨.move day p q c, n, _, rfl, rfl, rfl, ⟨⟨hp, hqm, hqp, c1, c2⟩, rfl, tot.move nd hp hqm hqp n0 n1 n2 n3, nofun⟩⟩
      -- thrown away
      refine ws2_ret ?_
      refine we_tup ?_
      refine wa_cons ?_
      refine we_tup ?_
      refine wa_cons ?_
      refine we_str ?_
      refine wa_cons ?_
      refine we_var rfl ?_
      refine wa_cons ?_
      refine we_var rfl ?_
      refine wa_cons ?_
      refine we_var rfl ?_
      refine wa_nil ?_
      refine ⟨by show 4 ≤ 100000; decide, _, rfl, ?_⟩
      refine wa_cons ?_
      refine we_var rfl ?_
      refine wa_nil ?_
      refine ⟨by show 2 ≤ 100000; decide, _, rfl, ?_⟩
      refine ⟨.away day p c, n, _, rfl, rfl, rfl, ⟨⟨hp, c1, c2⟩, rfl, tk, nofun⟩⟩
end
end T25

namespace T25
open PySem PySem.Spec PyProof.Rows L2 Z
section
variable {K : PySem.W.Frag} {δ : Sl} {o : OC}
/-- two dicts of one's own were changed by another def -/
theorem sat_two {B : Z.Act} {M : AS} {H H' : Hp} {σ : L2.St} (S : Sat K B M H σ δ) {i j : Nat} (hij : i ≠ j) {T1 T2 U1 U2 : List (Key × D)} {t b : Addr} {vt vb vt' vb' : List (Key × V)} (e1 : δ[i]? = some (some (.ownD T1))) (e2 : δ[j]? = some (some (.ownD T2)))
    (s1 : σ[i]? = some (some (.ref t))) (s2 : σ[j]? = some (some (.ref b))) (mt : M t) (mb : M b) (gt : B.G t = none) (gb : B.G b = none) (h1 : H t = some (.dK vt)) (h2 : H b = some (.dK vb)) (kp : ∀ a o, a ≠ t → a ≠ b → ¬ B.W a → H a = some o → H' a = some o) (wl : ∀ a, B.W a → WellAt H' a)
    (k1 : H' t = some (.dK vt')) (k2 : H' b = some (.dK vb')) (r1 : RepK K M H' vt' U1) (r2 : RepK K M H' vb' U2) : Sat K B M H' σ ((δ.set i (some (.ownD U1))).set j (some (.ownD U2))) ∧ Ext M H M H' := by
  have nw : ∀ a, B.W a → a ≠ t ∧ a ≠ b := fun a w => ⟨fun z => S.g0 a (S.w0 a w) (by rw [z]; exact gt), fun z => S.g0 a (S.w0 a w) (by rw [z]; exact gb)⟩
  have mv : Mv M H M H' := fun a n h => ⟨Kp.of fun o e => kp a o (fun z => n (by rw [z]; exact mt)) (fun z => n (by rw [z]; exact mb)) (fun w => n (S.m0 a (S.w0 a w))) e, n⟩
  have back : ∀ (n : Nat) (bv : AV), ((δ.set i (some (.ownD U1))).set j (some (.ownD U2)))[n]? = some (some bv) → isOwn bv = true → ∃ cv, δ[n]? = some (some cv) ∧ isOwn cv = true := fun n bv en ob => by
    by_cases hj : n = j
    · subst hj; exact ⟨_, e2, rfl⟩
    · rw [List.getElem?_set_ne (Ne.symm hj)] at en
      by_cases hi : n = i
      · subst hi; exact ⟨_, e1, rfl⟩
      · rw [List.getElem?_set_ne (Ne.symm hi)] at en
        exact ⟨bv, en, ob⟩
  refine ⟨⟨fun n av e => ?_, fun a c av bv x hne ea ec oa oc sa sc => ?_, by rw [List.length_set, List.length_set, S.len], fun a m => ?_, S.m0, S.w0, S.g0, wl, S.welG, ⟨fun a oo n e => ?_, fun a w _ => wl a w⟩⟩, ⟨fun a oo n e => kp a oo (fun z => n (by rw [z]; exact mt)) (fun z => n (by rw [z]; exact mb)) (fun w => n (S.m0 a (S.w0 a w))) e, fun a m => .inl m⟩⟩
  · by_cases hj : n = j
    · subst hj
      have hl : n < (δ.set i (some (AV.ownD U1))).length := by rw [List.length_set]; exact (List.getElem?_eq_some_iff.mp e2).1
      rw [List.getElem?_set_self hl] at e
      cases e
      exact ⟨_, s2, b, vb', rfl, mb, gb, k2, r2⟩
    · rw [List.getElem?_set_ne (Ne.symm hj)] at e
      by_cases hi : n = i
      · subst hi
        rw [List.getElem?_set_self (List.getElem?_eq_some_iff.mp e1).1] at e
        cases e
        exact ⟨_, s1, t, vt', rfl, mt, gt, k1, r1⟩
      · rw [List.getElem?_set_ne (Ne.symm hi)] at e
        obtain ⟨v, q1, q2⟩ := S.slot n av e
        refine ⟨v, q1, ?_⟩
        cases av with
        | dat d => exact Rep.mv mv q2
        | own xs =>
          obtain ⟨a, vs, ea, m, g, q, r⟩ := q2
          exact ⟨a, vs, ea, m, g, kp a _ (fun z => by rw [z, h1] at q; cases q) (fun z => by rw [z, h2] at q; cases q) (fun w => S.g0 a (S.w0 a w) g) q, RepL.mv mv r⟩
        | ownD xs =>
          obtain ⟨a, vs, ea, m, g, q, r⟩ := q2
          refine ⟨a, vs, ea, m, g, kp a _ (fun z => ?_) (fun z => ?_) (fun w => S.g0 a (S.w0 a w) g) q, RepK.mv mv r⟩
          · exact S.dis n i _ _ t hi e e1 rfl rfl (by rw [q1, ea, z]) s1
          · exact S.dis n j _ _ b hj e e2 rfl rfl (by rw [q1, ea, z]) s2
        | well => exact q2
  · obtain ⟨av', q1, q2⟩ := back a av ea oa
    obtain ⟨bv', q3, q4⟩ := back c bv ec oc
    exact S.dis a c av' bv' x hne q1 q3 q2 q4 sa sc
  · by_cases qt : a = t
    · rw [qt, k1]; intro z; cases z
    · by_cases qb : a = b
      · rw [qb, k2]; intro z; cases z
      · by_cases w : B.W a
        · obtain ⟨x, y, z, e, _⟩ := wl a w
          rw [e]; intro z; cases z
        · cases e : H a with
          | none => exact absurd e (S.trk a m)
          | some oo => rw [kp a oo qt qb w e]; intro z; cases z
  · exact kp a oo (fun z => by rw [z, gt] at e; cases e) (fun z => by rw [z, gb] at e; cases e) n (S.fr.kp a oo n e)
/-- events.append(_law_one_event(..)) -/
theorem ws_oe {E : XK} {ns : List Str} {h g : Str → Int} {es : List (Ev × Int)} {day most : Int} {news : Bool} (e0 : δ[0]? = some (some .well)) (e5 : δ[5]? = some (some (.dat (.lst (ns.map D.str))))) (e7 : δ[7]? = some (some (.ownD (hD ns h)))) (e8 : δ[8]? = some (some (.ownD (hD ns g))))
    (e6 : δ[6]? = some (some (.own (es.map exD)))) (e9 : δ[9]? = some (some (.dat (.int day)))) (e3 : δ[3]? = some (some (.dat (.int most)))) (e4 : δ[4]? = some (some (.dat (.bl news)))) (pre : OePre ns h g es most)
    (k : ∀ ev x g', OePost ns h es day ev x g' → o.nx (((δ.set 7 (some (.ownD (hD ns (step h ev))))).set 8 (some (.ownD (hD ns g')))).set 6 (some (.own ((es ++ [(ev, x)]).map exD))))) :
    WS K (tDrop (tBM K "list" rAppend (tVar 6) (tCons (tCall (spOE K) [] E (tCons (tVar 0) (tCons (tVar 5) (tCons (tVar 7) (tCons (tVar 8) (tCons (tVar 6) (tCons (tVar 9) (tCons (tVar 3) (tCons (tVar 4) tNil))))))))) tNil))) δ o := fun A M H σ S De n b c r => by
  obtain ⟨v0, s0, w0, rfl, hw⟩ := S.slot 0 _ e0
  obtain ⟨v5, s5, r5⟩ := S.slot 5 _ e5
  obtain ⟨v7, s7, t, vt, rfl, mt, gt, ht, rt⟩ := S.slot 7 _ e7
  obtain ⟨v8, s8, bb, vb, rfl, mb, gb, hb, rb⟩ := S.slot 8 _ e8
  obtain ⟨v6, s6, a, ve, rfl, ma, ga, ha, ra⟩ := S.slot 6 _ e6
  obtain ⟨v9, s9, r9⟩ := S.slot 9 _ e9
  obtain ⟨v3, s3, r3⟩ := S.slot 3 _ e3
  obtain ⟨v4, s4, r4⟩ := S.slot 4 _ e4
  cases r9
  cases r3
  cases r4
  have ntb : t ≠ bb := fun z => S.dis 7 8 _ _ t (by decide) e7 e8 rfl rfl s7 (by rw [z]; exact s8)
  have nat : a ≠ t := fun z => by rw [z, ht] at ha; cases ha
  have nab : a ≠ bb := fun z => by rw [z, hb] at ha; cases ha
  have wne : ∀ x, A.W x → x ≠ t ∧ x ≠ bb ∧ x ≠ a := fun x w => ⟨fun z => S.g0 x (S.w0 x w) (by rw [z]; exact gt), fun z => S.g0 x (S.w0 x w) (by rw [z]; exact gb), fun z => S.g0 x (S.w0 x w) (by rw [z]; exact ga)⟩
  let Mc : AS := fun x => M x ∧ x ≠ t ∧ x ≠ bb ∧ x ≠ a
  refine ⟨_, s6, .inl ⟨rfl, _, .inl (.inl ha)⟩, ⟨_, s0, _, s5, _, s7, _, s8, _, s6, _, s9, _, s3, _, s4, ?_⟩⟩
  show spOE K _ H _ E
  refine ⟨ns, h, g, es, day, most, news, w0, t, bb, v5, .ref a, Mc, A.W, vt, vb, rfl, ⟨fun x w => ⟨S.m0 x (S.w0 x w), wne x w⟩, fun x m => S.trk x m.1, S.wel⟩, hw, fun m => m.2.1 rfl, fun m => m.2.2.1 rfl, ntb, ht, hb, hD_repK rt, hD_repK rb, r5.sub (fun x m => m.1), .lst ha (fun m => m.2.2.2 rfl) (ra.sub (fun x m => m.1)), pre, ?_⟩
  intro v H' ev x g' vt' vb' kp wl ht' hb' rt' rb' rv post
  have ha' : H' a = some (.lst ve) := kp a _ nat nab (fun w => (wne a w).2.2 rfl) ha
  obtain ⟨S1, x1⟩ := sat_two S (by decide : 7 ≠ 8) e7 e8 s7 s8 mt mb gt gb ht hb kp wl ht' hb' (hD_repK (M' := M) rt') (hD_repK (M' := M) rb')
  have e6' : ((δ.set 7 (some (.ownD (hD ns (step h ev))))).set 8 (some (.ownD (hD ns g'))))[6]? = some (some (.own (es.map exD))) := by
    rw [List.getElem?_set_ne (by decide), List.getElem?_set_ne (by decide)]; exact e6
  have mv : Mv M H M H' := fun b n h => ⟨Kp.of fun o e => x1.1 b o n e, n⟩
  have rv' : Rep K M H' v (exD (ev, x)) := rv.tupF2 (evL_flat ev) trivial fun b m => by
    by_cases z1 : b = t
    · exact .inr fun xs q => by rw [z1, ht'] at q; cases q
    · by_cases z2 : b = bb
      · exact .inr fun xs q => by rw [z2, hb'] at q; cases q
      · by_cases z3 : b = a
        · exact .inr fun xs q => by rw [z3, ha'] at q; cases q
        · exact .inl ⟨m, z1, z2, z3⟩
  have rl : RepL K M H' (ve ++ [v]) ((es ++ [(ev, x)]).map exD) := by
    rw [List.map_append]
    exact (RepL.mv mv ra).append (.cons rv' .nil)
  have mu : Mv M H' M (upd H' a (.lst (ve ++ [v]))) := fun b nb hb => ⟨Kp.of fun oo eo => by rw [upd_ne (fun z : b = a => nb (by rw [z]; exact ma))]; exact eo, nb⟩
  refine ⟨a, ve, v, rfl, rfl, ha', by rw [ra.length, List.length_map]; exact sz1000 (by have := pre.few; omega), ?_⟩
  obtain ⟨S2, x2⟩ := S1.own_upd (av' := .own ((es ++ [(ev, x)]).map exD)) (u := .lst (ve ++ [v])) e6' rfl rfl s6 ma ga ⟨a, _, rfl, ma, ga, upd_same, RepL.mv mu rl⟩
  exact n M _ σ _ (x1.trans x2) S2 (k ev x g' post)
theorem lastDay_snoc (es : List Ev) (e : Ev) : lastDay (es ++ [e]) = e.day := by unfold lastDay; rw [List.getLast?_append]; rfl
theorem OkEs.snoc {ns : List Str} {es : List Ev} {e : Ev} (o : OkEs ns es) (hl : es.length < 40) (oe : OkE ns es (hAt es es.length) e) : OkEs ns (es ++ [e]) := by
  refine ⟨by rw [List.length_append]; show es.length + 1 ≤ 40; omega, fun k x hx => ?_⟩
  have hk := (List.getElem?_eq_some_iff.mp hx).1
  rw [List.length_append] at hk
  have hk : k < es.length + 1 := hk
  by_cases c : k < es.length
  · rw [List.getElem?_append_left c] at hx
    have := o.ok k x hx
    have e1 : (es ++ [e]).take k = es.take k := by rw [List.take_append_of_le_length (by omega)]
    have e2 : hAt (es ++ [e]) k = hAt es k := by unfold hAt; rw [e1]
    rw [e1, e2]; exact this
  · obtain rfl : k = es.length := by omega
    rw [List.getElem?_append_right (Nat.le_refl _), Nat.sub_self] at hx
    cases hx
    have e1 : (es ++ [e]).take es.length = es := by rw [List.take_append_of_le_length (Nat.le_refl _), List.take_length]
    have e2 : hAt (es ++ [e]) es.length = hAt es es.length := by unfold hAt; rw [e1, List.take_length]
    rw [e1, e2]; exact oe
theorem hAt_snoc (es : List Ev) (e : Ev) : hAt (es ++ [e]) (es.length + 1) = step (hAt es es.length) e := by
  have : (es ++ [e])[es.length]? = some e := by rw [List.getElem?_append_right (Nat.le_refl _), Nat.sub_self]; rfl
  rw [hAt_succ this]
  unfold hAt
  rw [List.take_append_of_le_length (Nat.le_refl _)]
end
section
variable {P : Program} {w : World} {K : PySem.W.Frag} {mg : Str → Option Value} {base : Heap} {A : Adr}
def S_law_drawn : List AV → (D → Prop) → Prop := fun as Φ => ∃ (ps : Pl) (many : Nat) (most : Int) (news : Bool), as = [.well, .dat (.tup (ps.map pD)), .dat (.int (many : Int)), .dat (.int most), .dat (.bl news)] ∧ OkP ps ∧ many ≤ 40 ∧ 1 ≤ most ∧ most ≤ 999 ∧
  ∀ es : List (Ev × Int), es.length = many → OkEs (ps.map (·.1)) (es.map (·.1)) → Φ (.tup [.tup ((es.map (·.1)).map evD), .tup ((es.map (·.2)).map D.int)])
theorem ok_law_drawn (T : Txt K mg A w) : FnOk P w K mg base CX0 5 A.f_law_drawn A.d_law_drawn ["well", "places", "many", "most", "news"] (spA K S_law_drawn) := by
  have G_law_one_event := ok_law_one_event (P := P) (w := w) (base := base) T
  have G_law_pick := ok_law_pick (P := P) (w := w) (base := base) T
  have G_law_take := ok_law_take (P := P) (w := w) (base := base) T
  refine T.F_law_drawn.ok sc_law_drawn (fun vs H Q E h => spA_len h fun as Φ h => ?len) (fun cdv Ar outer s H vs Q E hr h => ?body)
  case body =>
    have hr_law_one_event := hr.mono (k := _) (j := _) (by decide : 4 ≤ 4)
    have hr_law_pick := hr.mono (k := _) (j := _) (by decide : 2 ≤ 4)
    have hr_law_take := hr.mono (k := _) (j := _) (by decide : 1 ≤ 4)
    refine ⟨_, (pss_cons (ps_asg (pe_tup (pa_cons (pe_lc (own := [("place", 12)]) rfl sc_law_drawn.nd (pi_tup (pv 1)) (blkOk_by (N := ["well", "places", "many", "most", "news", "names", "events", "totals", "bads", "day", "name", "turn", "place", "event"]) (sc := defScope s_law_drawn) (by decide +kernel)) (fun _ _ _ _ _ => (pg_name (i := 12) sc_law_drawn.nd rfl (by first | exact Or.inl rfl | exact Or.inr rfl))) (fun _ _ _ _ _ => pts_nil) (fun _ _ _ _ _ => (pe_ix (show IxR _ (rIx K) from ix_seq) (pv 12) pe_int (fun _ _ => rfl)))) (pa_cons (pe_lst pa_nil) (pa_cons pe_dnewK (pa_cons pe_dnewK (pa_cons (pe_call G_law_take hr_law_take rfl T.m_law_take T.F_law_take.kp T.b_law_take .nil pass0 (pa_cons (pv 0) (pa_cons pe_int pa_nil))) pa_nil)))))) (show PG _ _ (gTup K _ _) from pg_tup (n := 5) rfl (pgs_cons (pg_name (i := 5) sc_law_drawn.nd rfl (by first | exact Or.inl rfl | exact Or.inr rfl)) (pgs_cons (pg_name (i := 6) sc_law_drawn.nd rfl (by first | exact Or.inl rfl | exact Or.inr rfl)) (pgs_cons (pg_name (i := 7) sc_law_drawn.nd rfl (by first | exact Or.inl rfl | exact Or.inr rfl)) (pgs_cons (pg_name (i := 8) sc_law_drawn.nd rfl (by first | exact Or.inl rfl | exact Or.inr rfl)) (pgs_cons (pg_name (i := 9) sc_law_drawn.nd rfl (by first | exact Or.inl rfl | exact Or.inr rfl)) pgs_nil)))))))
      (pss_cons (ps_for PassesOwn.never rfl (pi_list (pv 5)) (pg_name (i := 10) sc_law_drawn.nd rfl (by first | exact Or.inl rfl | exact Or.inr rfl)) (pss_one (ps_asg (pe_tup (pa_cons pe_int (pa_cons pe_int pa_nil))) (show PG _ _ (gTup K _ _) from pg_tup (n := 2) rfl (pgs_cons (pg_sub (pv 7) (pv 10) (set_dict (hu_of hr))) (pgs_cons (pg_sub (pv 8) (pv 10) (set_dict (hu_of hr))) pgs_nil))))))
      (pss_cons (ps_for PassesOwn.never rfl (pi_range1 (by rfl) T.z_range (pa_cons (pv 2) pa_nil)) (pg_name (i := 11) sc_law_drawn.nd rfl (by first | exact Or.inl rfl | exact Or.inr rfl)) (pss_cons (ps_set (i := 9) sc_law_drawn.nd rfl (by first | exact Or.inl rfl | exact Or.inr rfl) (pe_callB (show CallR _ _ (rMinU K) from call_minU rfl) (by rfl) T.z_min boot_min (pa_cons pe_int (pa_cons (pe_op (show OpR _ _ (rAddU K) from op_addU) (pv 9) (pe_call G_law_pick hr_law_pick rfl T.m_law_pick T.F_law_pick.kp T.b_law_pick .nil pass0 (pa_cons (pv 0) (pa_cons (pe_lst (pa_cons pe_int (pa_cons pe_int (pa_cons pe_int (pa_cons pe_int pa_nil))))) pa_nil)))) pa_nil))))
      (pss_one (ps_expr (pe_bm PySem.F.plainAttrs_list PySem.F.slot_list_append PySem.F.type_list_append mt_append (pv 6) (pa_cons (pe_call G_law_one_event hr_law_one_event rfl T.m_law_one_event T.F_law_one_event.kp T.b_law_one_event .nil pass0 (pa_cons (pv 0) (pa_cons (pv 5) (pa_cons (pv 7) (pa_cons (pv 8) (pa_cons (pv 6) (pa_cons (pv 9) (pa_cons (pv 3) (pa_cons (pv 4) pa_nil))))))))) pa_nil))))))
      (pss_one (ps_ret (pe_tup (pa_cons (pe_callTy (show CallR _ _ (rTupleU K) from call_tupleU) (by rfl) T.z_tuple PyProof.Rows.boot_tuple (pa_cons (pe_lc (own := [("event", 13)]) rfl sc_law_drawn.nd (pi_list (pv 6)) (blkOk_by (N := ["well", "places", "many", "most", "news", "names", "events", "totals", "bads", "day", "name", "turn", "place", "event"]) (sc := defScope s_law_drawn) (by decide +kernel)) (fun _ _ _ _ _ => (pg_name (i := 13) sc_law_drawn.nd rfl (by first | exact Or.inl rfl | exact Or.inr rfl))) (fun _ _ _ _ _ => pts_nil) (fun _ _ _ _ _ => (pe_ix (show IxR _ (rIx K) from ix_seq) (pv 13) pe_int (fun _ _ => rfl)))) pa_nil)) (pa_cons (pe_callTy (show CallR _ _ (rTupleU K) from call_tupleU) (by rfl) T.z_tuple PyProof.Rows.boot_tuple (pa_cons (pe_lc (own := [("event", 13)]) rfl sc_law_drawn.nd (pi_list (pv 6)) (blkOk_by (N := ["well", "places", "many", "most", "news", "names", "events", "totals", "bads", "day", "name", "turn", "place", "event"]) (sc := defScope s_law_drawn) (by decide +kernel)) (fun _ _ _ _ _ => (pg_name (i := 13) sc_law_drawn.nd rfl (by first | exact Or.inl rfl | exact Or.inr rfl))) (fun _ _ _ _ _ => pts_nil) (fun _ _ _ _ _ => (pe_ix (show IxR _ (rIx K) from ix_seq) (pv 13) pe_int (fun _ _ => rfl)))) pa_nil)) pa_nil)))))))), fn_body (fun as Φ hs => ?_) vs H Q E h⟩
    obtain ⟨ps, many, most, news, rfl, op, m40, t1, t9, h⟩ := hs
    have nd := op.nd
    have n1 := op.n1
    have n12 := op.n12
    refine ws_seq (ws_tupW [5, 6, 7, 8, 9] rfl (wp_dat (we_lcX (wr_name 12) (mono_name 12) (by simp) (wi_tup (we_var rfl ⟨_, rfl, Str × Str, ps, pD, fun q => some (.str q.1), rfl, by omega, fun q hq => ?_, ?_⟩)))))
    · refine wg_name (wt_true ⟨fun _ => ?_, nofun⟩)
      refine we_op ?_
      refine we_var rfl ?_
      refine we_int ?_
      refine os_ix_tup rfl ?_
      rfl
    rw [fm_map, show ps.map (fun q => D.str q.1) = (ps.map (·.1)).map D.str by rw [List.map_map]; rfl]
    have ne1 : 1 ≤ (ps.map (·.1)).length := by rw [List.length_map]; exact n1
    have ne12 : (ps.map (·.1)).length ≤ 12 := by rw [List.length_map]; exact n12
    generalize ps.map (·.1) = ns at *
    refine wp_newL (wp_newD (wp_newD (wp_dat ?_)))
    refine we_call ?_
    refine wa_well rfl ?_
    refine wa_cons ?_
    refine we_int ?_
    refine wa_nil ?_
    refine ⟨4, rfl, by omega, by omega, fun day0 d0 d1 => wp_nil ⟨rfl, by decide, ?_⟩⟩
    refine ws_forU (fun i δ' => δ' = [some .well, some (.dat (.tup (ps.map pD))), some (.dat (.int (many : Int))), some (.dat (.int most)), some (.dat (.bl news)), some (.dat (.lst (ns.map D.str))), some (.own []), some (.ownD (hD (ns.take i) fun _ => 0)), some (.ownD (hD (ns.take i) fun _ => 0)), some (.dat (.int day0)), none, none, none, none]) ⟨_, rfl, by unfold setAll setAll setAll setAll setAll setAll; walk_at "zt"⟩
      (wi_list (we_var rfl ⟨_, rfl, fun i d δ0 hi hP => ?_, fun δ0 hP => ?_⟩))
    · subst hP
      obtain ⟨z, hz, rfl⟩ := map_at hi
      have lt : (ns.take i).length ≤ 12 := by rw [List.length_take]; omega
      have nz := nd_at nd hz
      refine wg_name (ws_asgT (we_tup (wa_cons (we_int (wa_cons (we_int (wa_nil ⟨Nat.le_of_ble_eq_true rfl, _, rfl, ?_⟩)))))))
      refine wg_tup rfl (wgs_cons (wg_dput rfl (by rw [hD_len]; omega) (we_var rfl ⟨Sum.inr z, rfl, wgs_cons (wg_dput rfl (by rw [hD_len]; omega) (we_var rfl ⟨Sum.inr z, rfl, wgs_nil ⟨_, rfl, ?_⟩⟩))⟩)))
      have e1 : putD (hD (ns.take i) fun _ => 0) (Sum.inr z) (.int 0) = hD (ns.take (i + 1)) fun _ => 0 := by
        rw [tk_snoc hz]; exact hD_new (h := fun _ => 0) nz
      rw [e1]
      walk_at "zt"
    subst hP
    rw [List.length_map, List.take_length]
    refine ws_forU (fun i δ' => ∃ (es : List (Ev × Int)) (g : Str → Int) (day : Int), es.length = i ∧ i ≤ many ∧ OkEs ns (es.map (·.1)) ∧ OePre ns (hAt (es.map (·.1)) es.length) g es most ∧ lastDay (es.map (·.1)) ≤ day ∧ 0 ≤ day ∧ day ≤ 999 ∧
        δ' = [some .well, some (.dat (.tup (ps.map pD))), some (.dat (.int (many : Int))), some (.dat (.int most)), some (.dat (.bl news)), some (.dat (.lst (ns.map D.str))), some (.own (es.map exD)), some (.ownD (hD ns (hAt (es.map (·.1)) es.length))), some (.ownD (hD ns g)), some (.dat (.int day)), none, none, none, none])
      ⟨_, ⟨[], fun _ => 0, day0, rfl, Nat.zero_le _, ⟨Nat.zero_le _, nofun⟩, ⟨nd, ne1, ne12, ⟨fun z hz => ⟨Int.le_refl _, Int.le_refl _⟩, ?_⟩, Nat.zero_le _, nofun, t1, t9⟩, d0, d0, by omega, rfl⟩, by walk_at "zt"⟩
      (wi_rng1 (wa_cons (we_var rfl (wa_nil ⟨_, rfl, by omega, fun i d δ0 hi hP => ?_, fun δ0 hP => ?_⟩))))
    · have : ∀ l : List Str, (l.map (hAt [] 0)).sum = 0 := fun l => by
        induction l with
        | nil => rfl
        | cons a r ih => rw [List.map_cons, List.sum_cons, ih]; rfl
      show (ns.map (hAt [] 0)).sum ≤ _
      rw [this]; exact Int.le_refl _
    · obtain ⟨es, g, day, hl, him, oe, pre, ld, dd0, dd9, rfl⟩ := hP
      have hi1 : i < many := by
        have hl := (List.getElem?_eq_some_iff.mp hi).1
        rw [rangeD_len] at hl
        omega
      refine wg_name (ws_seq (ws_asg ?_))
      refine we_up ?_
      refine we_cb ?_
      refine wa_cons ?_
      refine we_int ?_
      refine wa_cons ?_
      refine we_op ?_
      refine we_var rfl ?_
      refine we_call ?_
      refine wa_well rfl ?_
      refine wa_cons ?_
      refine we_lst ?_
      refine wa_cons ?_
      refine we_int ?_
      refine wa_cons ?_
      refine we_int ?_
      refine wa_cons ?_
      refine we_int ?_
      refine wa_cons ?_
      refine we_int ?_
      refine wa_nil ?_
      refine ⟨by show 4 ≤ 100000; decide, _, rfl, ?_⟩
      refine wa_nil ?_
      refine ⟨_, _, rfl, .inl rfl, by show 0 < 4; decide, by show 4 ≤ 1000; decide, fun dx hd => ?_⟩
      obtain ⟨y, rfl, y0⟩ : ∃ y : Int, dx = .int y ∧ 0 ≤ y := by
        simp only [List.mem_cons, List.not_mem_nil, or_false] at hd
        rcases hd with rfl | rfl | rfl | rfl <;> exact ⟨_, rfl, by omega⟩
      refine os_add_int (wa_nil (cs_min2 ⟨trivial, ?_⟩))
      refine ws_oe rfl rfl rfl rfl rfl rfl rfl rfl pre fun ev x g' post => ?_
      have l40 : es.length < 40 := by omega
      have lm : (es.map (·.1)).length = es.length := List.length_map _
      have hd' : hAt ((es ++ [(ev, x)]).map (·.1)) (es ++ [(ev, x)]).length = step (hAt (es.map (·.1)) es.length) ev := by
        rw [List.map_append, List.length_append, show [(ev, x)].length = 1 from rfl, ← lm]
        exact hAt_snoc _ ev
      refine ⟨_, ⟨es ++ [(ev, x)], g', min 999 (day + y), by rw [List.length_append, hl]; rfl, by omega, ?_, ⟨nd, ne1, ne12, ?_, ?_, ?_, t1, t9⟩, ?_, by omega, by omega, rfl⟩, ?_⟩
      · rw [List.map_append]
        refine oe.snoc (by rw [lm]; exact l40) ⟨?_, ?_, ?_, ?_⟩
        · rw [post.dy]; omega
        · rw [post.dy]; omega
        · rw [post.dy]; omega
        · rw [lm]; exact post.ok
      · rw [hd', List.length_append]; exact post.tot
      · rw [List.length_append]; show es.length + 1 ≤ 40; omega
      · intro j d p n lo hi' z hj
        by_cases c : j < es.length
        · rw [List.getElem?_append_left c] at hj
          exact pre.pr j _ _ _ _ _ _ hj
        · rw [List.getElem?_append_right (by omega)] at hj
          obtain ⟨e1, e2⟩ : ev = .pour d p n lo hi' ∧ x = z := by
            cases c2 : j - es.length with
            | zero => rw [c2] at hj; cases hj; exact ⟨rfl, rfl⟩
            | succ m => rw [c2] at hj; cases hj
          subst e2
          exact post.pr _ _ _ _ _ e1
      · rw [List.map_append, show [(ev, x)].map (·.1) = [ev] from rfl, lastDay_snoc, post.dy]; exact Int.le_refl _
      · rw [hd']
        walk_at "zt"
    · obtain ⟨es, g, day, hl, him, oe, pre, ld, dd0, dd9, rfl⟩ := hP
      rw [rangeD_len] at hl
      have few := pre.few
      refine ws_freeze 6 rfl (ws_ret (we_tup (wa_cons (we_cb (wa_cons (we_lcX (wr_name 13) (mono_name 13) (by simp) (wi_list (we_var rfl ⟨_, rfl, Ev × Int, es, exD, fun q => some (evD q.1), rfl, by omega, fun q hq => ?_, ?_⟩))))))))
      · refine wg_name (wt_true ⟨fun _ => ?_, nofun⟩)
        refine we_op ?_
        refine we_var rfl ?_
        refine we_int ?_
        refine os_ix_tup rfl ?_
        rfl
      rw [fm_map, show es.map (fun q => evD q.1) = (es.map (·.1)).map evD by rw [List.map_map]; rfl]
      refine wa_nil (cs_tuple_lst (wa_cons (we_cb (wa_cons (we_lcX (wr_name 13) (mono_name 13) (by simp) (wi_list (we_var rfl ⟨_, rfl, Ev × Int, es, exD, fun q => some (.int q.2), rfl, by omega, fun q hq => ?_, ?_⟩)))))))
      · refine wg_name (wt_true ⟨fun _ => ?_, nofun⟩)
        refine we_op ?_
        refine we_var rfl ?_
        refine we_int ?_
        refine os_ix_tup rfl ?_
        rfl
      rw [fm_map, show es.map (fun q => D.int q.2) = (es.map (·.2)).map D.int by rw [List.map_map]; rfl]
      exact wa_nil (cs_tuple_lst (wa_nil ⟨Nat.le_of_ble_eq_true rfl, _, rfl, h es (by omega) oe⟩))
  case len => obtain ⟨a, b, c, d, rfl, _⟩ := h; rfl
end
end T25

namespace T25
open PySem PySem.Spec PyProof.Rows L2 Z
/-! ### the law's own following, and ways -/
theorem mem_wStep {h : Str → Int} {e : Ev} {i : Nat} {ws : Ws} {y : Str} : y ∈ (wStep h e i ws).map (·.1) ↔ (y ∈ ws.map (·.1) ∧ isLeft h y e = true) ∨ ∃ d p n, e = .move d p y n ∧ p ∈ ws.map (·.1) := by
  have fl : ∀ e : Ev, y ∈ (ws.filter fun x => isLeft h x.1 e).map (·.1) ↔ (y ∈ ws.map (·.1) ∧ isLeft h y e = true) := fun e => by
    constructor
    · intro m
      obtain ⟨q, hq, rfl⟩ := List.mem_map.mp m
      obtain ⟨h1, h2⟩ := List.mem_filter.mp hq
      exact ⟨List.mem_map_of_mem (f := (·.1)) h1, h2⟩
    · rintro ⟨m, hl⟩
      obtain ⟨q, hq, rfl⟩ := List.mem_map.mp m
      have hm : q ∈ ws.filter fun x => isLeft h x.1 e := List.mem_filter.mpr ⟨hq, by simpa using hl⟩
      exact List.mem_map_of_mem (f := (·.1)) hm
  have no : (∀ d p q n, e ≠ .move d p q n) → (y ∈ (ws.filter fun x => isLeft h x.1 e).map (·.1) ↔ (y ∈ ws.map (·.1) ∧ isLeft h y e = true) ∨ ∃ d p n, e = .move d p y n ∧ p ∈ ws.map (·.1)) := fun ne => by
    rw [fl]
    exact ⟨.inl, fun q => q.elim id fun ⟨d, p, n, e1, _⟩ => absurd e1 (ne _ _ _ _)⟩
  unfold wStep
  cases e with
  | move d p q n =>
    dsimp only
    cases g : wGet ws p with
    | none =>
      dsimp only
      rw [fl]
      refine ⟨.inl, fun z => z.elim id fun ⟨d', p', n', e1, m⟩ => ?_⟩
      cases e1
      exact absurd m (wGet_none.mp g)
    | some w =>
      dsimp only
      have pm : p ∈ ws.map (·.1) := List.mem_map.mpr ⟨_, wGet_mem g, rfl⟩
      split
      · rename_i mq
        rw [fl]
        refine ⟨.inl, fun z => z.elim id fun ⟨d', p', n', e1, m⟩ => ?_⟩
        cases e1
        exact (fl _).mp mq
      · rw [List.map_append, List.mem_append, fl]
        constructor
        · rintro (z | z)
          · exact .inl z
          · have : y = q := by simpa using z
            subst this
            exact .inr ⟨d, p, n, rfl, pm⟩
        · rintro (z | ⟨d', p', n', e1, m⟩)
          · exact .inl z
          · cases e1
            exact .inr (by simp)
  | _ => exact no (by intros; nofun)
/-- where one stands along a way, i events behind the pour -/
def hereF (es : List Ev) (k : Nat) (w : List Nat) : Nat → Str
  | 0 => match es[k]? with | some e => pourAt e | none => ""
  | i + 1 => if k + 1 + i ∈ w then (match es[k + 1 + i]? with | some (.move _ _ q _) => q | _ => hereF es k w i) else hereF es k w i
theorem hereF_congr {es : List Ev} {k : Nat} {w w' : List Nat} : ∀ {i : Nat}, (∀ j, j < i → (k + 1 + j ∈ w ↔ k + 1 + j ∈ w')) → hereF es k w i = hereF es k w' i
  | 0, _ => rfl
  | i + 1, h => by
    have ih := hereF_congr (es := es) fun j hj => h j (Nat.lt_succ_of_lt hj)
    unfold hereF
    rw [ih]
    by_cases c : k + 1 + i ∈ w
    · rw [if_pos c, if_pos ((h i (Nat.lt_succ_self i)).mp c)]
    · rw [if_neg c, if_neg fun q => c ((h i (Nat.lt_succ_self i)).mpr q)]
def goesOn (es : List Ev) (k : Nat) (w : List Nat) (i : Nat) : Prop := ∀ x, es[k + 1 + i]? = some x → (k + 1 + i ∈ w → ∃ d q c, x = .move d (hereF es k w i) q c) ∧ (k + 1 + i ∉ w → isLeft (hAt es (k + 1 + i)) (hereF es k w i) x = true)
structure IsWay (es : List Ev) (k n : Nat) (w : List Nat) (z : Str) : Prop where
  hd : w[0]? = some k
  asc : w.Pairwise (· < ·)
  le : ∀ j ∈ w, j ≤ k + n
  go : ∀ i, i < n → goesOn es k w i
  fin : hereF es k w n = z
theorem waysN_way {es : List Ev} {k : Nat} : ∀ {n : Nat} {z : Str} {w : List Nat}, (z, w) ∈ waysN es k n → k + n < es.length → IsWay es k n w z
  | 0, z, w, m, _ => by
    have := List.mem_singleton.mp m
    cases this
    exact ⟨rfl, by simp, fun j hj => by rw [List.mem_singleton.mp hj]; exact Nat.le_refl _, nofun, rfl⟩
  | n + 1, z, w, m, hl => by
    have hx : es[k + 1 + n]? = some es[k + 1 + n] := List.getElem?_eq_getElem (by omega)
    generalize es[k + 1 + n] = x at hx
    unfold waysN at m
    rw [hx] at m
    have m : (z, w) ∈ wStep (hAt es (k + 1 + n)) x (k + 1 + n) (waysN es k n) := m
    have ih : ∀ (z : Str) (w : List Nat), (z, w) ∈ waysN es k n → IsWay es k n w z := fun z w m => waysN_way m (by omega)
    have stay : ∀ (ws : Ws) (p : Str × List Nat → Bool), (∀ q, q ∈ ws → q ∈ waysN es k n) → (z, w) ∈ ws → isLeft (hAt es (k + 1 + n)) z x = true → IsWay es k (n + 1) w z := fun ws p hws mm hlft => by
      have W := ih z w (hws _ mm)
      have nin : k + 1 + n ∉ w := fun q => by have := W.le _ q; omega
      refine ⟨W.hd, W.asc, fun j hj => Nat.le_succ_of_le (W.le j hj), fun i hi => ?_, ?_⟩
      · by_cases c : i < n
        · exact W.go i c
        · obtain rfl : i = n := by omega
          intro y hy
          rw [hx] at hy
          cases hy
          exact ⟨fun q => absurd q nin, fun _ => by rw [W.fin]; exact hlft⟩
      · unfold hereF
        rw [if_neg nin]
        exact W.fin
    have flt : (z, w) ∈ (waysN es k n).filter (fun y => isLeft (hAt es (k + 1 + n)) y.1 x) → IsWay es k (n + 1) w z := fun mm => by
      obtain ⟨m1, m2⟩ := List.mem_filter.mp mm
      exact stay _ (fun _ => true) (fun _ q => q) m1 m2
    unfold wStep at m
    cases x with
    | move d p q c =>
      dsimp only at m
      cases g : wGet (waysN es k n) p with
      | none => rw [g] at m; exact flt m
      | some w0 =>
        rw [g] at m
        dsimp only at m
        split at m
        · exact flt m
        · rcases List.mem_append.mp m with mm | mm
          · exact flt mm
          · obtain ⟨rfl, rfl⟩ := Prod.mk.inj (List.mem_singleton.mp mm)
            have W := ih p w0 (wGet_mem g)
            have same : ∀ i, i ≤ n → hereF es k (w0 ++ [k + 1 + n]) i = hereF es k w0 i := fun i hi => hereF_congr fun j hj => by
              rw [List.mem_append, List.mem_singleton]
              exact ⟨fun q => q.elim id fun e => by omega, .inl⟩
            have here : k + 1 + n ∈ w0 ++ [k + 1 + n] := by simp
            refine ⟨?_, ?_, fun j hj => ?_, fun i hi => ?_, ?_⟩
            · have h0 := (List.getElem?_eq_some_iff.mp W.hd).1
              rw [List.getElem?_append_left h0]; exact W.hd
            · exact List.pairwise_append.mpr ⟨W.asc, by simp, fun a ha b hb => by
                rw [List.mem_singleton.mp hb]
                have := W.le a ha
                omega⟩
            · rcases List.mem_append.mp hj with q | q
              · exact Nat.le_succ_of_le (W.le j q)
              · rw [List.mem_singleton.mp q]; omega
            · by_cases c2 : i < n
              · have := W.go i c2
                intro y hy
                obtain ⟨g1, g2⟩ := this y hy
                rw [same i (by omega), List.mem_append, List.mem_singleton]
                exact ⟨fun q => g1 (q.resolve_right (by omega)), fun q => g2 fun r => q (.inl r)⟩
              · obtain rfl : i = n := by omega
                intro y hy
                rw [hx] at hy
                cases hy
                exact ⟨fun _ => ⟨d, z, c, by rw [same i (Nat.le_refl _), W.fin]⟩, fun q => absurd here q⟩
            · unfold hereF
              rw [if_pos here, hx]
    | _ => exact flt m
end T25

namespace T25
open PySem PySem.Spec PyProof.Rows L2 Z
/-- data to be compared, of a depth -/
def Nice : Nat → D → Prop
  | _, .non => True
  | _, .bl _ => True
  | _, .int _ => True
  | _, .str _ => True
  | n + 1, .tup xs => xs.length ≤ 1000 ∧ ∀ x ∈ xs, Nice n x
  | _, _ => False
section
variable {P : Program} {w : World} {K : PySem.W.Frag} {mg : Str → Option Value} {base : Heap} {A : Adr}
def S_law_same : Nat → List AV → (D → Prop) → Prop
  | 0 => fun _ _ => False
  | n + 1 => fun as Φ => ∃ x : D, as = [.dat x, .dat x] ∧ Nice n x ∧ Φ (.bl true)
theorem ok_law_same (T : Txt K mg A w) : ∀ n, FnOk P w K mg base CX0 n A.f_law_same A.d_law_same ["told", "due"] (spA K (S_law_same n))
  | 0 => ⟨fun vs H Q E h => (by obtain ⟨as, M, W, Φ, st, r, h, _⟩ := h; exact h.elim), fun Ar outer s H args us vs Q E hr he hb hv h => (by obtain ⟨as, M, W, Φ, st, r, h, _⟩ := h; exact h.elim)⟩
  | n + 1 => by
    have G_law_same := ok_law_same T n
    refine T.F_law_same.ok sc_law_same (fun vs H Q E h => spA_len h fun as Φ h => ?len) (fun cdv Ar outer s H vs Q E hr h => ?body)
    case len => obtain ⟨x, rfl, _⟩ := h; rfl
    case body =>
      have hr_law_same := hr
      refine ⟨_, (pss_cons (ps_if (pt_val (pe_callB (show CallR _ _ (rIsi K) from call_isi) (by rfl) T.z_isinstance boot_isinstance (pa_cons (pv 1) (pa_cons (pe_bltn (v := .ty "tuple") rfl T.z_tuple (by decide +kernel) rfl) pa_nil)))) (pss_cons (ps_if (PW.pt (pw_or (pt_not (pt_val (pe_callB (show CallR _ _ (rIsi K) from call_isi) (by rfl) T.z_isinstance boot_isinstance (pa_cons (pv 0) (pa_cons (pe_bltn (v := .ty "tuple") rfl T.z_tuple (by decide +kernel) rfl) pa_nil))))) (pw_or1 (pt_cmpR (show OpR _ _ (rNeU K) from op_neU hr) (pe_callB (show CallR _ _ (rLenU K) from call_lenU) (by rfl) T.z_len PySem.boot_len (pa_cons (pv 0) pa_nil)) (pe_callB (show CallR _ _ (rLenU K) from call_lenU) (by rfl) T.z_len PySem.boot_len (pa_cons (pv 1) pa_nil)) (nomark _))))) (pss_one (ps_ret pe_bl)) pss_nil)
      (pss_one (ps_ret (pe_callB (show CallR _ _ (rAll K) from cr_all rfl) (by rfl) T.z_all boot_all (pa_cons (pe_lc (own := [("at", 2)]) rfl sc_law_same.nd (pi_range1 (by rfl) T.z_range (pa_cons (pe_callB (show CallR _ _ (rLenU K) from call_lenU) (by rfl) T.z_len PySem.boot_len (pa_cons (pv 1) pa_nil)) pa_nil)) (blkOk_by (N := ["told", "due", "at"]) (sc := defScope s_law_same) (by decide +kernel)) (fun _ _ _ _ _ => (pg_name (i := 2) sc_law_same.nd rfl (by first | exact Or.inl rfl | exact Or.inr rfl))) (fun _ _ _ _ _ => pts_nil) (fun _ _ _ _ _ => (pe_call G_law_same hr_law_same rfl T.m_law_same T.F_law_same.kp T.b_law_same .nil pass0 (pa_cons (pe_ix (show IxR _ (rIx K) from ix_seq) (pv 0) (pv 2) (fun _ _ => rfl)) (pa_cons (pe_ix (show IxR _ (rIx K) from ix_seq) (pv 1) (pv 2) (fun _ _ => rfl)) pa_nil))))) pa_nil))))) pss_nil)
      (pss_cons (ps_if (PW.pt (pw_or (pt_cmpR op_isN (pv 1) pe_non (nomark _)) (pw_or (pt_cmpR (show OpR _ _ rIsTF from op_isTF) (pv 1) pe_bl (nomark _)) (pw_or1 (pt_cmpR (show OpR _ _ rIsTF from op_isTF) (pv 1) pe_bl (nomark _)))))) (pss_one (ps_ret (pe_or (pe_and (pe_cmpR op_isN (pv 1) pe_non (nomark _)) (pe_one (pe_cmpR op_isN (pv 0) pe_non (nomark _)))) (pe_or (pe_and (pe_cmpR (show OpR _ _ rIsTF from op_isTF) (pv 1) pe_bl (nomark _)) (pe_one (pe_cmpR (show OpR _ _ rIsTF from op_isTF) (pv 0) pe_bl (nomark _)))) (pe_one (pe_and (pe_cmpR (show OpR _ _ rIsTF from op_isTF) (pv 1) pe_bl (nomark _)) (pe_one (pe_cmpR (show OpR _ _ rIsTF from op_isTF) (pv 0) pe_bl (nomark _))))))))) pss_nil)
      (pss_cons (ps_if (pt_val (pe_callB (show CallR _ _ (rIsi K) from call_isi) (by rfl) T.z_isinstance boot_isinstance (pa_cons (pv 1) (pa_cons (pe_bltn (v := .ty "int") rfl T.z_int (by decide +kernel) rfl) pa_nil)))) (pss_one (ps_ret (pe_and (pe_callB (show CallR _ _ (rIsi K) from call_isi) (by rfl) T.z_isinstance boot_isinstance (pa_cons (pv 0) (pa_cons (pe_bltn (v := .ty "int") rfl T.z_int (by decide +kernel) rfl) pa_nil))) (pe_and (pe_not (pe_callB (show CallR _ _ (rIsi K) from call_isi) (by rfl) T.z_isinstance boot_isinstance (pa_cons (pv 0) (pa_cons (pe_bltn (v := .ty "bool") rfl T.z_bool (by decide +kernel) rfl) pa_nil)))) (pe_one (pe_cmpR (show OpR _ _ (rEqU K) from op_eqU hr) (pv 0) (pv 1) (nomark _))))))) pss_nil)
      (pss_one (ps_ret (pe_and (pe_callB (show CallR _ _ (rIsi K) from call_isi) (by rfl) T.z_isinstance boot_isinstance (pa_cons (pv 0) (pa_cons (pe_bltn (v := .ty "str") rfl T.z_str (by decide +kernel) rfl) pa_nil))) (pe_one (pe_cmpR (show OpR _ _ (rEqU K) from op_eqU hr) (pv 0) (pv 1) (nomark _)))))))))
, fn_body (fun as Φ hs => ?_) vs H Q E h⟩
      obtain ⟨x, rfl, hx, hp⟩ := hs
      clear h
      have h := hp
      clear hp
      cases x with
      | non =>
        walk_at "zk"
        all_goals first | (refine os_isTF trivial ?_; walk_at "zk") | skip
      | int i =>
        walk_at "zk"
        refine os_isTF trivial ?_
        walk_at "zk"
        refine os_isTF trivial ?_
        walk_at "zk"
        all_goals (show Φ (.bl (decide (i = i))); simpa using h)
      | str s =>
        walk_at "zk"
        refine os_isTF trivial ?_
        walk_at "zk"
        refine os_isTF trivial ?_
        walk_at "zk"
        all_goals (show Φ (.bl (decide (s = s))); simpa using h)
      | bl b =>
        cases b
        · walk_at "zk"
          refine os_isTF trivial ?_
          walk_at "zk"
          refine os_isTF trivial ?_
          walk_at "zk"
          refine os_isTF trivial ?_
          walk_at "zk"
          refine os_isTF trivial ?_
          walk_at "zk"
          refine os_isTF trivial ?_
          walk_at "zk"
        · walk_at "zk"
          refine os_isTF trivial ?_
          walk_at "zk"
          refine os_isTF trivial ?_
          walk_at "zk"
          refine os_isTF trivial ?_
          walk_at "zk"
      | fl l => cases n <;> exact hx.elim
      | dic l => cases n <;> exact hx.elim
      | lst l => cases n <;> exact hx.elim
      | ins C l => cases n <;> exact hx.elim
      | clv v => cases n <;> exact hx.elim
      | tup xs =>
        cases n with
        | zero => exact hx.elim
        | succ n =>
          obtain ⟨hl, hx⟩ := hx
          walk_at "zz"
          · simp at e
          · refine we_lcX (wr_name 2) (mono_name 2) (by simp) (wi_rng1 (wa_cons (we_cb (wa_cons (we_var rfl (wa_nil (cs_len rfl (wa_nil ⟨_, rfl, ⟨by omega, by omega⟩, Nat, List.range xs.length, _, fun _ => some (.bl true), rfl, by rw [List.length_range]; omega, fun i hi => ?_, ?_⟩))))))))
            · have hil := List.mem_range.mp hi
              have hil : i < xs.length := by omega
              have hat : L2.atI xs (0 + (i : Int)) = some xs[i] := by rw [show (0 : Int) + (i : Int) = (i : Int) by omega]; exact Z.atI_nat (List.getElem?_eq_getElem hil)
              exact wg_name (wt_true ⟨fun _ => we_call (wa_cons (we_op (we_var rfl (we_var rfl (os_ix_tup hat (wa_cons (we_op (we_var rfl (we_var rfl (os_ix_tup hat (wa_nil ⟨xs[i], rfl, hx _ (List.getElem_mem hil), rfl⟩))))))))))), nofun⟩)
            · rw [fm_map, show ∀ m, (List.range m).map (fun _ => D.bl true) = ((List.range m).map fun _ => true).map D.bl from fun m => by rw [List.map_map]; rfl]
              refine wa_nil (cs_all ?_)
              rw [show ∀ m, ((List.range m).map fun _ => true).all id = true from fun m => by simp]
              exact h
end
end T25

namespace T25
open PySem PySem.Spec PyProof.Rows L2 Z
theorem rng_at {lo : Int} {n i : Nat} {d : D} (h : (rangeD lo n)[i]? = some d) : i < n ∧ d = .int (lo + (i : Int)) := by
  have hl := (List.getElem?_eq_some_iff.mp h).1
  rw [rangeD_len] at hl
  rw [rangeD_get hl] at h
  exact ⟨hl, (Option.some.inj h).symm⟩
section
variable {P : Program} {w : World} {K : PySem.W.Frag} {mg : Str → Option Value} {base : Heap} {A : Adr}
def S_law_totals : List AV → (D → Prop) → Prop := fun as Φ => ∃ ps es, as = [.dat (.tup (ps.map pD)), .dat (.tup (es.map evD))] ∧ OkP ps ∧ OkEs (ps.map (·.1)) es ∧ Φ (.lst (rowsD ps es es.length))
theorem ok_law_totals (T : Txt K mg A w) : FnOk P w K mg base CX0 1 A.f_law_totals A.d_law_totals ["places", "events"] (spA K S_law_totals) := by
  refine T.F_law_totals.ok sc_law_totals (fun vs H Q E h => spA_len h fun as Φ h => ?len) (fun cdv Ar outer s H vs Q E hr h => ?body)
  case body =>
    refine ⟨_, (pss_cons (ps_par (i := 2) (j := 3) rfl sc_law_totals.nd rfl rfl (by decide) rfl rfl (pa_cons pe_dnewK (pa_cons (pe_lst pa_nil) pa_nil)) rfl)
      (pss_cons (ps_for PassesOwn.never rfl (pi_tup (pv 0)) (pg_name (i := 4) sc_law_totals.nd rfl (by first | exact Or.inl rfl | exact Or.inr rfl)) (pss_one (ps_dput (hu_of hr) (pv 2) (pe_ix (show IxR _ (rIx K) from ix_seq) (pv 4) pe_int (fun _ _ => rfl)) pe_int rfl)))
      (pss_cons (ps_expr (pe_bm PySem.F.plainAttrs_list PySem.F.slot_list_append PySem.F.type_list_append mt_append (pv 3) (pa_cons (pe_callTy (show CallR _ _ rDictC from call_dictD) (by rfl) T.z_dict PyProof.Rows.boot_dict (pa_cons (pv 2) pa_nil)) pa_nil)))
      (pss_cons (ps_for PassesOwn.never rfl (pi_tup (pv 1)) (pg_name (i := 5) sc_law_totals.nd rfl (by first | exact Or.inl rfl | exact Or.inr rfl)) (pss_cons (ps_if (pt_cmpR (show OpR _ _ (rInU K) from op_inU hr) (pe_ix (show IxR _ (rIx K) from ix_seq) (pv 5) pe_int (fun _ _ => rfl)) (pe_lst (pa_cons pe_str (pa_cons pe_str (pa_cons pe_str pa_nil)))) (by rfl)) (pss_one (ps_dput (hu_of hr) (pv 2) (pe_ix (show IxR _ (rIx K) from ix_seq) (pv 5) pe_int (fun _ _ => rfl)) (pe_op (show OpR _ _ (rAddU K) from op_addU) (pe_dget (hu_of hr) (pv 2) (pe_ix (show IxR _ (rIx K) from ix_seq) (pv 5) pe_int (fun _ _ => rfl)) (fun _ _ => rfl)) (pe_ifExp (pt_cmpR (show OpR _ _ (rEqU K) from op_eqU hr) (pe_ix (show IxR _ (rIx K) from ix_seq) (pv 5) pe_int (fun _ _ => rfl)) pe_str (nomark _)) (pe_ix (show IxR _ (rIx K) from ix_seq) (pv 5) pe_int (fun _ _ => rfl)) (pe_un un_neg (pe_ix (show IxR _ (rIx K) from ix_seq) (pv 5) pe_int (fun _ _ => rfl))))) rfl)) pss_nil)
      (pss_cons (ps_if (pt_cmpR (show OpR _ _ (rEqU K) from op_eqU hr) (pe_ix (show IxR _ (rIx K) from ix_seq) (pv 5) pe_int (fun _ _ => rfl)) pe_str (nomark _)) (pss_one (ps_asg (pe_tup (pa_cons (pe_op op_sub (pe_dget (hu_of hr) (pv 2) (pe_ix (show IxR _ (rIx K) from ix_seq) (pv 5) pe_int (fun _ _ => rfl)) (fun _ _ => rfl)) (pe_ix (show IxR _ (rIx K) from ix_seq) (pv 5) pe_int (fun _ _ => rfl))) (pa_cons (pe_op (show OpR _ _ (rAddU K) from op_addU) (pe_dget (hu_of hr) (pv 2) (pe_ix (show IxR _ (rIx K) from ix_seq) (pv 5) pe_int (fun _ _ => rfl)) (fun _ _ => rfl)) (pe_ix (show IxR _ (rIx K) from ix_seq) (pv 5) pe_int (fun _ _ => rfl))) pa_nil))) (show PG _ _ (gTup K _ _) from pg_tup (n := 2) rfl (pgs_cons (pg_sub (pv 2) (pe_ix (show IxR _ (rIx K) from ix_seq) (pv 5) pe_int (fun _ _ => rfl)) (set_dict (hu_of hr))) (pgs_cons (pg_sub (pv 2) (pe_ix (show IxR _ (rIx K) from ix_seq) (pv 5) pe_int (fun _ _ => rfl)) (set_dict (hu_of hr))) pgs_nil))))) pss_nil)
      (pss_one (ps_expr (pe_bm PySem.F.plainAttrs_list PySem.F.slot_list_append PySem.F.type_list_append mt_append (pv 3) (pa_cons (pe_callTy (show CallR _ _ rDictC from call_dictD) (by rfl) T.z_dict PyProof.Rows.boot_dict (pa_cons (pv 2) pa_nil)) pa_nil)))))))
      (pss_one (ps_ret (pv 3))))))), fn_body (fun as Φ hs => ?_) vs H Q E h⟩
    obtain ⟨ps, es, rfl, op, oe, h⟩ := hs
    have nd := op.nd
    have n12 := op.n12
    have e40 := oe.few
    have ne12 : (ps.map (·.1)).length ≤ 12 := by rw [List.length_map]; exact n12
    refine ws_seq (ws_par (wp_newD (wp_newL (wp_nil ⟨_, _, rfl, ?_⟩))))
    refine ws_forU (fun i δ' => δ' = [some (.dat (.tup (ps.map pD))), some (.dat (.tup (es.map evD))), some (.ownD (hD ((ps.map (·.1)).take i) fun _ => 0)), some (.own []), none, none]) ⟨_, rfl, by walk_at "zt"⟩
      (wi_tup (we_var rfl ⟨_, rfl, fun i d δ0 hi hP => ?_, fun δ0 hP => ?_⟩))
    · subst hP
      obtain ⟨q, hq, rfl⟩ := map_at hi
      have hz : (ps.map (·.1))[i]? = some q.1 := by rw [List.getElem?_map, hq]; rfl
      refine wg_name (ws_dput rfl (by rw [hD_len, List.length_take]; omega) (we_int ?_))
      refine we_op ?_
      refine we_var rfl ?_
      refine we_int ?_
      refine os_ix_tup rfl ?_
      refine ⟨Sum.inr q.1, rfl, ?_⟩
      have e1 : putD (hD ((ps.map (·.1)).take i) fun _ => 0) (Sum.inr q.1) (.int 0) = hD ((ps.map (·.1)).take (i + 1)) fun _ => 0 := by
        rw [tk_snoc hz]; exact hD_new (h := fun _ => 0) (nd_at nd hz)
      rw [e1]
      exact ⟨_, rfl, by walk_at "zt"⟩
    subst hP
    rw [List.length_map, show (ps.map (·.1)).take ps.length = ps.map (·.1) by rw [List.take_of_length_le (by rw [List.length_map]; exact Nat.le_refl _)]]
    refine ws_seq (ws_app rfl (by show 0 < 100000; decide) (we_dictO rfl ?_))
    refine ws_forU (fun i δ' => i ≤ es.length ∧ δ' = [some (.dat (.tup (ps.map pD))), some (.dat (.tup (es.map evD))), some (.ownD (hD (ps.map (·.1)) (hAt es i))), some (.own (rowsD ps es i)), none, none]) ⟨_, ⟨Nat.zero_le _, rfl⟩, by show Z.Le _ [_, _, _, some (.own [D.dic (hD (ps.map (·.1)) fun _ => 0)]), _, _]; walk_at "zt"⟩
      (wi_tup (we_var rfl ⟨_, rfl, fun i d δ0 hi hP => ?_, fun δ0 hP => ?_⟩))
    · obtain ⟨hle, rfl⟩ := hP
      obtain ⟨x, hx, rfl⟩ := map_at hi
      have hl : i < es.length := (List.getElem?_eq_some_iff.mp hx).1
      have inn := (oe.ok i x hx).2.2.2.inn
      have qp := (oe.ok i x hx).2.2.2
      have sx : hAt es (i + 1) = step (hAt es i) x := hAt_succ hx
      have key : ∃ hm, hm = (match x with | .move _ _ _ _ => hAt es i | _ => hAt es (i + 1)) := ⟨_, rfl⟩
      obtain ⟨hm, ehm⟩ := key
      refine wg_name (ws_cut [some (.dat (.tup (ps.map pD))), some (.dat (.tup (es.map evD))), some (.ownD (hD (ps.map (·.1)) hm)), some (.own (rowsD ps es i)), none, some (.dat (evD x))] ?_ (ws_cut [some (.dat (.tup (ps.map pD))), some (.dat (.tup (es.map evD))), some (.ownD (hD (ps.map (·.1)) (hAt es (i + 1)))), some (.own (rowsD ps es i)), none, none] ?_ ?_))
      · refine ws_if ?_
        rw [ehm]
        cases x with
        | pour d p n lo hi =>
          rw [sx]
          walk_at "zk"
          refine os_in_strs (ns := ["pour", "away", "sample"]) ?_
          walk_at "zk"
          refine ws_dput rfl (by rw [hD_len]; omega) (we_up (we_op (we_dget (we_varD rfl ⟨_, rfl, ?_⟩))))
          walk_at "zk"
          refine ⟨Sum.inr p, _, rfl, hD_val inn, ?_⟩
          walk_at "zk"
          refine ⟨trivial, ?_⟩
          walk_at "zk"
          refine ⟨Sum.inr p, rfl, ?_⟩
          rw [hD_put inn]
          exact ⟨_, rfl, by walk_at "zt"⟩
        | away d p n =>
          rw [sx]
          walk_at "zk"
          refine os_in_strs (ns := ["pour", "away", "sample"]) ?_
          walk_at "zk"
          refine ws_dput rfl (by rw [hD_len]; omega) (we_up (we_op (we_dget (we_varD rfl ⟨_, rfl, ?_⟩))))
          walk_at "zk"
          refine ⟨Sum.inr p, _, rfl, hD_val inn, ?_⟩
          walk_at "zk"
          refine ⟨trivial, ?_⟩
          walk_at "zk"
          refine ⟨Sum.inr p, rfl, ?_⟩
          rw [hD_put inn]
          exact ⟨_, rfl, by walk_at "zt"⟩
        | sample d p n lo hi =>
          rw [sx]
          walk_at "zk"
          refine os_in_strs (ns := ["pour", "away", "sample"]) ?_
          walk_at "zk"
          refine ws_dput rfl (by rw [hD_len]; omega) (we_up (we_op (we_dget (we_varD rfl ⟨_, rfl, ?_⟩))))
          walk_at "zk"
          refine ⟨Sum.inr p, _, rfl, hD_val inn, ?_⟩
          walk_at "zk"
          refine ⟨trivial, ?_⟩
          walk_at "zk"
          refine ⟨Sum.inr p, rfl, ?_⟩
          rw [hD_put inn]
          exact ⟨_, rfl, by walk_at "zt"⟩
        | move d p q n =>
          walk_at "zk"
          refine os_in_strs (ns := ["pour", "away", "sample"]) ?_
          walk_at "zk"
        | look d p lo hi =>
          rw [sx]
          walk_at "zk"
          refine os_in_strs (ns := ["pour", "away", "sample"]) ?_
          walk_at "zk"
        | doubt d k lo hi =>
          rw [sx]
          walk_at "zk"
          refine os_in_strs (ns := ["pour", "away", "sample"]) ?_
          walk_at "zk"
      · refine ws_if ?_
        rw [ehm]
        cases x with
        | move d p q n =>
          obtain ⟨hp, hq⟩ := inn
          have hne : q ≠ p := qp.2.2.1
          rw [sx]
          walk_at "zk"
          refine ws_asgT (we_tup (wa_cons (we_up (we_op (we_dget (we_varD rfl ⟨_, rfl, ?_⟩))))))
          walk_at "zk"
          refine ⟨Sum.inr p, _, rfl, hD_val hp, ?_⟩
          walk_at "zk"
          refine ⟨trivial, wa_cons (we_up (we_op (we_dget (we_varD rfl ⟨_, rfl, ?_⟩))))⟩
          walk_at "zk"
          refine ⟨Sum.inr q, _, rfl, hD_val hq, ?_⟩
          walk_at "zk"
          refine ⟨trivial, wa_nil ⟨Nat.le_of_ble_eq_true rfl, _, rfl, ?_⟩⟩
          refine wg_tup rfl (wgs_cons (wg_dput rfl (by rw [hD_len]; omega) ?_))
          walk_at "zk"
          refine ⟨Sum.inr p, rfl, ?_⟩
          rw [Int.sub_eq_add_neg, hD_put hp]
          refine wgs_cons (wg_dput rfl (by rw [hD_len]; omega) ?_)
          walk_at "zk"
          refine ⟨Sum.inr q, rfl, ?_⟩
          rw [show hAt es i q + n = up (hAt es i) p (-n) q + n by rw [show up (hAt es i) p (-n) q = hAt es i q from if_neg hne], hD_put hq]
          exact wgs_nil ⟨_, rfl, by walk_at "zt"⟩
        | _ => walk_at "zk"
      · refine ws_app rfl (by unfold rowsD; rw [List.length_map, List.length_range]; omega) (we_dictO rfl ⟨_, ⟨hl, rfl⟩, ?_⟩)
        rw [rows_snoc]
        walk_at "zt"
    · obtain ⟨hle, rfl⟩ := hP
      rw [List.length_map]
      exact ws_ret (we_varO rfl h)
  case len => obtain ⟨a, b, rfl, _⟩ := h; rfl
def S_law_pours : List AV → (D → Prop) → Prop := fun as Φ => ∃ es : List Ev, as = [.dat (.tup (es.map evD))] ∧ es.length ≤ 40 ∧ Φ (.lst (((List.range es.length).filter fun i => (es[i]?.map (·.isPour)).getD false).map fun (j : Nat) => D.int (j : Int)))
theorem ok_law_pours (T : Txt K mg A w) : FnOk P w K mg base CX0 1 A.f_law_pours A.d_law_pours ["events"] (spA K S_law_pours) := by
  refine T.F_law_pours.ok sc_law_pours (fun vs H Q E h => spA_len h fun as Φ h => ?len) (fun cdv Ar outer s H vs Q E hr h => ?body)
  case body =>
    refine ⟨_, (pss_one (ps_ret (pe_lc (own := [("at", 1), ("event", 2)]) rfl sc_law_pours.nd (pi_enumT (by rfl) T.z_enumerate (pa_cons (pv 0) pa_nil)) (blkOk_by (N := ["events", "at", "event"]) (sc := defScope s_law_pours) (by decide +kernel)) (fun _ _ _ _ _ => (show PG _ _ (gTup K _ _) from pg_tup (n := 2) rfl (pgs_cons (pg_name (i := 1) sc_law_pours.nd rfl (by first | exact Or.inl rfl | exact Or.inr rfl)) (pgs_cons (pg_name (i := 2) sc_law_pours.nd rfl (by first | exact Or.inl rfl | exact Or.inr rfl)) pgs_nil)))) (fun _ _ _ _ _ => (pts_one (pt_cmpR (show OpR _ _ (rEqU K) from op_eqU hr) (pe_ix (show IxR _ (rIx K) from ix_seq) (pv 2) pe_int (fun _ _ => rfl)) pe_str (nomark _)))) (fun _ _ _ _ _ => (pv 1))))), fn_body (fun as Φ hs => ?_) vs H Q E h⟩
    obtain ⟨es, rfl, few, h⟩ := hs
    refine ws_ret (we_lcX (wr_name2 1 2) (mono_name2 1 2) (by simp) (wi_enumT (wa_cons (we_var rfl (wa_nil ⟨_, rfl, ?_⟩)))))
    refine ⟨Nat, List.range es.length, fun i => .tup [.int (i : Int), (es.map evD).getD i .non], fun i => if (es[i]?.map (·.isPour)).getD false = true then some (.int (i : Int)) else none, by unfold enumD; rw [List.length_map], by rw [List.length_range]; omega, fun i hi => ?_, ?_⟩
    · have hl := List.mem_range.mp hi
      have he : es[i]? = some es[i] := List.getElem?_eq_getElem hl
      have hg : (es.map evD).getD i .non = evD es[i] := by rw [List.getD_eq_getElem?_getD, List.getElem?_map, he]; rfl
      have pe : (es[i]?.map (·.isPour)).getD false = es[i].isPour := by rw [he]; rfl
      dsimp only
      rw [hg]
      refine wg_tup rfl (wgs_cons (wg_name (wgs_cons (wg_name (wgs_nil (wt_test ?_))))))
      refine we_op ?_
      refine we_op ?_
      refine we_var rfl ?_
      refine we_int ?_
      refine os_ix_tup (ev_kind es[i]) ?_
      refine we_str ?_
      refine os_eq_str ?_
      rw [kind_pour, ← pe]
      exact ⟨_, rfl, fun e => we_var rfl (if_pos e), fun e => if_neg (by rw [e]; exact Bool.false_ne_true)⟩
    rw [fm_if]
    exact h
  case len => obtain ⟨a, rfl, _⟩ := h; rfl
end
end T25

namespace T25
open PySem PySem.Spec PyProof.Rows L2 Z
def Ev.tkn : Ev → Int
  | .move _ _ _ n => n | .away _ _ n => n | .sample _ _ n _ _ => n | _ => 0
def wI (w : List Nat) : List Int := w.map fun (j : Nat) => (j : Int)
theorem wI_D (w : List Nat) : njD w = (wI w).map D.int := by unfold njD wI; rw [List.map_map]; rfl
theorem mem_wI {w : List Nat} {j : Nat} : ((j : Int) ∈ wI w) ↔ j ∈ w := by
  unfold wI
  rw [List.mem_map]
  exact ⟨fun ⟨a, h, e⟩ => by rw [show j = a by omega]; exact h, fun h => ⟨j, h, rfl⟩⟩
theorem hereF_in {ns : List Str} {es : List Ev} (oe : OkEs ns es) {k : Nat} {e : Ev} (he : es[k]? = some e) (hp : e.isPour = true) (w : List Nat) : ∀ i, hereF es k w i ∈ ns
  | 0 => by
    have := (oe.ok k e he).2.2.2.inn
    unfold hereF
    rw [he]
    cases e with
    | pour => exact this
    | _ => cases hp
  | i + 1 => by
    have ih := hereF_in oe he hp w i
    unfold hereF
    split
    · cases hx : es[k + 1 + i]? with
      | none => exact ih
      | some x =>
        cases x with
        | move d p q n => exact (oe.ok _ _ hx).2.2.2.inn.2
        | _ => exact ih
    · exact ih
section
variable {P : Program} {w : World} {K : PySem.W.Frag} {mg : Str → Option Value} {base : Heap} {A : Adr}
def S_law_follow : List AV → (D → Prop) → Prop := fun as Φ => ∃ ps es, ∃ k n : Nat, ∃ e : Ev, as = [.dat (.tup (es.map evD)), .dat (.lst (rowsD ps es es.length)), .dat (.int (k : Int)), .dat (.int ((k + n : Nat) : Int))] ∧ OkP ps ∧ OkEs (ps.map (·.1)) es ∧ es[k]? = some e ∧ e.isPour = true ∧ k + n < es.length ∧
  ∀ fs : List Str, (∀ z, z ∈ fs ↔ z ∈ (waysN es k n).map (·.1)) → fs.length ≤ 12 → Φ (.lst (fs.map D.str))
theorem ok_law_follow (T : Txt K mg A w) : FnOk P w K mg base CX0 1 A.f_law_follow A.d_law_follow ["events", "totals", "pour", "event"] (spA K S_law_follow) := by
  refine T.F_law_follow.ok sc_law_follow (fun vs H Q E h => spA_len h fun as Φ h => ?len) (fun cdv Ar outer s H vs Q E hr h => ?body)
  case body =>
    refine ⟨_, (pss_cons (ps_set (i := 4) sc_law_follow.nd rfl (by first | exact Or.inl rfl | exact Or.inr rfl) (pe_lst (pa_cons (pe_ix (show IxR _ (rIx K) from ix_seq) (pe_ix (show IxR _ (rIx K) from ix_seq) (pv 0) (pv 2) (fun _ _ => rfl)) pe_int (fun _ _ => rfl)) pa_nil)))
      (pss_cons (ps_for PassesOwn.never rfl (pi_range2 (by rfl) T.z_range (pa_cons (pe_op (show OpR _ _ (rAddU K) from op_addU) (pv 2) pe_int) (pa_cons (pe_op (show OpR _ _ (rAddU K) from op_addU) (pv 3) pe_int) pa_nil))) (pg_name (i := 5) sc_law_follow.nd rfl (by first | exact Or.inl rfl | exact Or.inr rfl)) (pss_cons (ps_par (i := 6) (j := 7) rfl sc_law_follow.nd rfl rfl (by decide) rfl rfl (pa_cons (pe_ix (show IxR _ (rIx K) from ix_seq) (pe_ix (show IxR _ (rIx K) from ix_seq) (pv 0) (pv 5) (fun _ _ => rfl)) pe_int (fun _ _ => rfl)) (pa_cons (pe_lst pa_nil) pa_nil)) rfl)
      (pss_cons (ps_for PassesOwn.never rfl (pi_list (pv 4)) (pg_name (i := 8) sc_law_follow.nd rfl (by first | exact Or.inl rfl | exact Or.inr rfl)) (pss_cons (ps_set (i := 9) sc_law_follow.nd rfl (by first | exact Or.inl rfl | exact Or.inr rfl) (pe_ifExp (pt_cmpR (show OpR _ _ (rEqU K) from op_eqU hr) (pv 6) pe_str (nomark _)) (pe_ix (show IxR _ (rIx K) from ix_seq) (pe_ix (show IxR _ (rIx K) from ix_seq) (pv 0) (pv 5) (fun _ _ => rfl)) pe_int (fun _ _ => rfl)) (pe_ifExp (pt_cmpR (show OpR _ _ (rInU K) from op_inU hr) (pv 6) (pe_lst (pa_cons pe_str (pa_cons pe_str pa_nil))) (by rfl)) (pe_ix (show IxR _ (rIx K) from ix_seq) (pe_ix (show IxR _ (rIx K) from ix_seq) (pv 0) (pv 5) (fun _ _ => rfl)) pe_int (fun _ _ => rfl)) pe_int)))
      (pss_cons (ps_if (PW.pt (pw_or (pt_cmpR (show OpR _ _ (rEqU K) from op_eqU hr) (pv 9) pe_int (nomark _)) (pw_or (pt_cmpR (show OpR _ _ (rNeU K) from op_neU hr) (pe_ix (show IxR _ (rIx K) from ix_seq) (pe_ix (show IxR _ (rIx K) from ix_seq) (pv 0) (pv 5) (fun _ _ => rfl)) pe_int (fun _ _ => rfl)) (pv 8) (nomark _)) (pw_or1 (pt_cmpR op_gt (pe_dget (hu_of hr) (pe_ix (show IxR _ (rIx K) from ix_seq) (pv 1) (pv 5) (fun _ _ => rfl)) (pv 8) (fun _ _ => rfl)) (pv 9) (nomark _)))))) (pss_one (ps_expr (pe_bm PySem.F.plainAttrs_list PySem.F.slot_list_append PySem.F.type_list_append mt_append (pv 7) (pa_cons (pv 8) pa_nil)))) pss_nil)
      (pss_one (ps_if (PW.pt (pw_and (pt_cmpR (show OpR _ _ (rEqU K) from op_eqU hr) (pv 6) pe_str (nomark _)) (pw_and1 (pt_cmpR (show OpR _ _ (rEqU K) from op_eqU hr) (pe_ix (show IxR _ (rIx K) from ix_seq) (pe_ix (show IxR _ (rIx K) from ix_seq) (pv 0) (pv 5) (fun _ _ => rfl)) pe_int (fun _ _ => rfl)) (pv 8) (nomark _))))) (pss_one (ps_expr (pe_bm PySem.F.plainAttrs_list PySem.F.slot_list_append PySem.F.type_list_append mt_append (pv 7) (pa_cons (pe_ix (show IxR _ (rIx K) from ix_seq) (pe_ix (show IxR _ (rIx K) from ix_seq) (pv 0) (pv 5) (fun _ _ => rfl)) pe_int (fun _ _ => rfl)) pa_nil)))) pss_nil)))))
      (pss_one (ps_set (i := 4) sc_law_follow.nd rfl (by first | exact Or.inl rfl | exact Or.inr rfl) (show PE _ _ (ZW.tSortSet K _) from ZW.pe_sortSet rfl (by rfl) T.z_sorted (by rfl) T.z_set (pv 7)))))))
      (pss_one (ps_ret (pv 4))))), fn_body (fun as Φ hs => ?_) vs H Q E h⟩
    obtain ⟨ps, es, k, n, e, rfl, op, oe, he, hp, hkn, h⟩ := hs
    have e40 := oe.few
    have n12 := op.n12
    have ne12 : (ps.map (·.1)).length ≤ 12 := by rw [List.length_map]; exact n12
    have le : L2.atI (es.map evD) (k : Int) = some (evD e) := Z.atI_nat (by rw [List.getElem?_map, he]; rfl)
    have w0 : waysN es k 0 = [(pourAt e, [k])] := by unfold waysN; rw [he]
    have l2 : L2.atI (evL e) 2 = some (.str (pourAt e)) := by
      cases e with
      | pour => rfl
      | _ => cases hp
    refine ws_seq ?_
    refine ws_asg ?_
    refine we_lst ?_
    refine wa_cons ?_
    refine we_op ?_
    refine we_op ?_
    refine we_var rfl ?_
    refine we_var rfl ?_
    refine os_ix_tup le ?_
    refine we_int ?_
    refine os_ix_tup l2 ?_
    refine wa_nil ?_
    refine ⟨by show 1 ≤ 100000; decide, _, rfl, ?_⟩
    refine ws_forU (fun i δ' => i ≤ n ∧ ∃ fs : List Str, (∀ z, z ∈ fs ↔ z ∈ (waysN es k i).map (·.1)) ∧ fs.length ≤ 12 ∧ δ' = [some (.dat (.tup (es.map evD))), some (.dat (.lst (rowsD ps es es.length))), some (.dat (.int (k : Int))), some (.dat (.int ((k + n : Nat) : Int))), some (.dat (.lst (fs.map D.str))), none, none, none, none, none])
      ⟨_, ⟨Nat.zero_le _, [pourAt e], fun z => by rw [w0]; exact Iff.rfl, by show 1 ≤ 12; decide, rfl⟩, by walk_at "zt"⟩ ?_
    refine wi_rng2 ?_
    refine wa_cons ?_
    refine we_op ?_
    refine we_var rfl ?_
    refine we_int ?_
    refine os_add_int ?_
    refine wa_cons ?_
    refine we_op ?_
    refine we_var rfl ?_
    refine we_int ?_
    refine os_add_int ?_
    refine wa_nil ?_
    refine ⟨_, _, rfl, by omega, fun i d δ0 hi hP => ?_, fun δ0 hP => ?_⟩
    · obtain ⟨hle, fs, hfs, hfl, rfl⟩ := hP
      obtain ⟨hin, hd⟩ := rng_at hi
      have hin : i < n := by omega
      obtain rfl : d = .int ((k + 1 + i : Nat) : Int) := by rw [hd]; congr 1
      clear hd hi
      have hxl : k + 1 + i < es.length := by omega
      obtain ⟨x, hx⟩ : ∃ x, es[k + 1 + i]? = some x := ⟨_, List.getElem?_eq_getElem hxl⟩
      have lx : L2.atI (es.map evD) ((k + 1 + i : Nat) : Int) = some (evD x) := Z.atI_nat (by rw [List.getElem?_map, hx]; rfl)
      have lr : L2.atI (rowsD ps es es.length) ((k + 1 + i : Nat) : Int) = some (rowD ps es (k + 1 + i)) := Z.atI_nat (rows_at ps es (by omega))
      have wo := waysN_ok oe he hp i
      have ws1 : waysN es k (i + 1) = wStep (hAt es (k + 1 + i)) x (k + 1 + i) (waysN es k i) := by rw [waysN]; rw [hx]
      have ox := (oe.ok _ x hx).2.2.2
      have wo1 := waysN_ok oe he hp (i + 1)
      refine wg_name (ws_seq (ws_par (wp_dat ?_)))
      refine we_op ?_
      refine we_op ?_
      refine we_var rfl ?_
      refine we_var rfl ?_
      refine os_ix_tup lx ?_
      refine we_int ?_
      refine os_ix_tup (ev_kind x) ?_
      refine wp_newL (wp_nil ⟨_, _, rfl, ?_⟩)
      refine ws_forU (fun j δ' => ∃ fr : List Str, fr.length ≤ 2 * j ∧ j ≤ 12 ∧ (∀ y, y ∈ fr ↔ ∃ z ∈ fs.take j, (y = z ∧ isLeft (hAt es (k + 1 + i)) z x = true) ∨ ∃ d p n, x = .move d p y n ∧ p = z) ∧
          δ' = [some (.dat (.tup (es.map evD))), some (.dat (.lst (rowsD ps es es.length))), some (.dat (.int (k : Int))), some (.dat (.int ((k + n : Nat) : Int))), some (.dat (.lst (fs.map D.str))), some (.dat (.int ((k + 1 + i : Nat) : Int))), some (.dat (.str x.kind)), some (.own (fr.map D.str)), none, none])
        ⟨_, ⟨[], Nat.zero_le _, Nat.zero_le _, fun y => by simp, rfl⟩, by walk_at "zt"⟩ (wi_list (we_var rfl ⟨_, rfl, fun j d δ0 hj hP => ?_, fun δ0 hP => ?_⟩))
      · obtain ⟨fr, frl, j12, hfr, rfl⟩ := hP
        obtain ⟨z, hz, rfl⟩ := map_at hj
        have hzm := List.mem_of_getElem? hz
        have jl : j < fs.length := (List.getElem?_eq_some_iff.mp hz).1
        have hzn : z ∈ ps.map (·.1) := by
          obtain ⟨q, hq, rfl⟩ := List.mem_map.mp ((hfs z).mp hzm)
          exact wo.inn q hq
        have tkz := tk_snoc hz
        refine wg_name (ws_seq (ws_asg (WE.imp (Φ := fun d => d = .int x.tkn) ?_ fun d hd => ?_)))
        · refine we_if (wt_test ?_)
          cases x with
          | move d p q c =>
            walk_at "zk"
            refine os_ix_tup lx ?_
            walk_at "zk"
            rfl
          | away d p c =>
            walk_at "zk"
            refine os_in_strs (ns := ["away", "sample"]) ?_
            walk_at "zk"
            refine os_ix_tup lx ?_
            walk_at "zk"
            rfl
          | sample d p c lo hi =>
            walk_at "zk"
            refine os_in_strs (ns := ["away", "sample"]) ?_
            walk_at "zk"
            refine os_ix_tup lx ?_
            walk_at "zk"
            rfl
          | pour d p c lo hi =>
            walk_at "zk"
            refine os_in_strs (ns := ["away", "sample"]) ?_
            walk_at "zk"
            rfl
          | look d p lo hi =>
            walk_at "zk"
            refine os_in_strs (ns := ["away", "sample"]) ?_
            walk_at "zk"
            rfl
          | doubt d q lo hi =>
            walk_at "zk"
            refine os_in_strs (ns := ["away", "sample"]) ?_
            walk_at "zk"
            rfl
        · subst hd
          refine ws_cut [some (.dat (.tup (es.map evD))), some (.dat (.lst (rowsD ps es es.length))), some (.dat (.int (k : Int))), some (.dat (.int ((k + n : Nat) : Int))), some (.dat (.lst (fs.map D.str))), some (.dat (.int ((k + 1 + i : Nat) : Int))), some (.dat (.str x.kind)), some (.own ((if isLeft (hAt es (k + 1 + i)) z x = true then fr ++ [z] else fr).map D.str)), some (.dat (.str z)), none] ?_ ?_
          · refine ws_if (WT.imp (Φ := fun c => c = isLeft (hAt es (k + 1 + i)) z x) ?_ fun c hc => ⟨fun e => ?_, fun e => ?_⟩)
            · refine wt_or (wt_test ?_)
              have tot : ∀ {Ψ : D → Prop} {δ : Sl}, δ[1]? = some (some (.dat (.lst (rowsD ps es es.length)))) → δ[5]? = some (some (.dat (.int ((k + 1 + i : Nat) : Int)))) → δ[8]? = some (some (.dat (.str z))) → Ψ (.int (hAt es (k + 1 + i) z)) → Z.WE K false (tDGet (tOp (rIx K) (tVar 1) (tVar 5)) (tVar 8)) δ Ψ := fun h1 h5 h8 hh =>
                we_dget (we_op (we_var h1 (we_var h5 (os_ix_lst lr ⟨_, rfl, we_var h8 ⟨Sum.inr z, _, rfl, hD_val hzn, hh⟩⟩))))
              cases x with
              | move d p q c =>
                have c1 := ox.2.2.2.1
                walk_at "zk"
                · have := of_decide_eq_true e
                  have : c = 0 := this
                  omega
                · refine os_ix_tup lx ?_
                  walk_at "zk"
                  · exact (if_neg (by simpa using e)).symm
                  · refine tot rfl rfl rfl ?_
                    walk_at "zk"
                    exact (if_pos (by simpa using e)).symm
              | away d p c =>
                have c1 := ox.2.1
                walk_at "zk"
                · have := of_decide_eq_true e
                  have : c = 0 := this
                  omega
                · refine os_ix_tup lx ?_
                  walk_at "zk"
                  · exact (if_neg (by simpa using e)).symm
                  · refine tot rfl rfl rfl ?_
                    walk_at "zk"
                    exact (if_pos (by simpa using e)).symm
              | sample d p c lo hi =>
                have c1 := ox.2.1
                walk_at "zk"
                · have := of_decide_eq_true e
                  have : c = 0 := this
                  omega
                · refine os_ix_tup lx ?_
                  walk_at "zk"
                  · exact (if_neg (by simpa using e)).symm
                  · refine tot rfl rfl rfl ?_
                    walk_at "zk"
                    exact (if_pos (by simpa using e)).symm
              | _ =>
                walk_at "zk"
                rfl
            · subst hc
              rw [if_pos e]
              refine ws_app rfl (by rw [List.length_map]; omega) (we_var rfl ⟨_, rfl, ?_⟩)
              rw [List.map_append]
              walk_at "zt"
            · subst hc
              rw [if_neg (by rw [e]; exact Bool.false_ne_true)]
              exact ws_next ⟨_, rfl, by walk_at "zt"⟩
          · generalize hfr1 : (if isLeft (hAt es (k + 1 + i)) z x = true then fr ++ [z] else fr) = fr1
            have m1 : ∀ y, y ∈ fr1 ↔ y ∈ fr ∨ (y = z ∧ isLeft (hAt es (k + 1 + i)) z x = true) := fun y => by
              rw [← hfr1]
              split
              · rename_i c
                rw [List.mem_append, List.mem_singleton]
                exact ⟨fun q => q.imp id fun e => ⟨e, c⟩, fun q => q.imp id (·.1)⟩
              · rename_i c
                exact ⟨.inl, fun q => q.elim id fun e => absurd e.2 c⟩
            have l1 : fr1.length ≤ 2 * j + 1 := by
              rw [← hfr1]
              split
              · rw [List.length_append]; show fr.length + 1 ≤ _; omega
              · omega
            clear hfr1
            have fin : ∀ fr2 : List Str, fr2.length ≤ 2 * (j + 1) → (∀ y, y ∈ fr2 ↔ y ∈ fr1 ∨ ∃ d p n, x = .move d p y n ∧ p = z) → ∀ y, y ∈ fr2 ↔ ∃ z ∈ fs.take (j + 1), (y = z ∧ isLeft (hAt es (k + 1 + i)) z x = true) ∨ ∃ d p n, x = .move d p y n ∧ p = z := fun fr2 _ hm y => by
              rw [hm, m1, hfr, tkz]
              constructor
              · rintro ((⟨u, hu, q⟩ | q) | q)
                · exact ⟨u, List.mem_append_left _ hu, q⟩
                · exact ⟨z, List.mem_append_right _ (by simp), .inl q⟩
                · exact ⟨z, List.mem_append_right _ (by simp), .inr q⟩
              · rintro ⟨u, hu, q⟩
                rcases List.mem_append.mp hu with hu | hu
                · exact .inl (.inl ⟨u, hu, q⟩)
                · rw [List.mem_singleton.mp hu] at q
                  exact q.elim (fun q => .inl (.inr q)) .inr
            have stay : (∀ d p y n, x = .move d p y n → p ≠ z) → ∀ y, y ∈ fr1 ↔ y ∈ fr1 ∨ ∃ d p n, x = .move d p y n ∧ p = z := fun hne y => ⟨.inl, fun q => q.elim id fun ⟨d, p, n, e1, e2⟩ => absurd e2 (hne _ _ _ _ e1)⟩
            refine ws_if (wt_and (wt_test ?_))
            cases x with
            | move d p q c =>
              walk_at "zk"
              refine os_ix_tup lx ?_
              walk_at "zk"
              · have ez : p = z := by simpa using e
                refine ws_app rfl (by rw [List.length_map]; omega) ?_
                walk_at "zk"
                refine os_ix_tup lx ?_
                walk_at "zk"
                refine ⟨_, ⟨fr1 ++ [q], by rw [List.length_append]; show fr1.length + 1 ≤ _; omega, by omega, fin _ (by rw [List.length_append]; show fr1.length + 1 ≤ _; omega) fun y => ?_, rfl⟩, ?_⟩
                · rw [List.mem_append, List.mem_singleton]
                  refine ⟨fun r => r.imp id fun e => ⟨d, p, c, by rw [e], ez⟩, fun r => r.imp id ?_⟩
                  rintro ⟨d', p', n', e1, e2⟩
                  cases e1
                  rfl
                · rw [List.map_append]
                  walk_at "zt"
              · have nz : p ≠ z := by simpa using e
                exact ⟨_, ⟨fr1, by omega, by omega, fin _ (by omega) (stay fun d' p' y n' e1 => by cases e1; exact nz), rfl⟩, by walk_at "zt"⟩
            | _ =>
              walk_at "zk"
              exact ⟨_, ⟨fr1, by omega, by omega, fin _ (by omega) (stay fun d' p' y n' e1 => by cases e1), rfl⟩, by walk_at "zt"⟩
      · obtain ⟨fr, frl, j12, hfr, rfl⟩ := hP
        rw [List.length_map] at frl hfr
        rw [List.take_length] at hfr
        refine ws_freeze 7 rfl (ws_asg (we_sortSet (we_var rfl ⟨fr, rfl, by omega, fun ys ynd ym ysrt => ?_⟩)))
        have mem : ∀ z, z ∈ ys ↔ z ∈ (waysN es k (i + 1)).map (·.1) := fun y => by
          rw [ym, hfr, ws1, mem_wStep]
          constructor
          · rintro ⟨z, hz, ⟨rfl, q⟩ | ⟨d, p, n, e1, rfl⟩⟩
            · exact .inl ⟨(hfs _).mp hz, q⟩
            · exact .inr ⟨d, p, n, e1, (hfs _).mp hz⟩
          · rintro (⟨m, q⟩ | ⟨d, p, n, e1, m⟩)
            · exact ⟨y, (hfs y).mpr m, .inl ⟨rfl, q⟩⟩
            · exact ⟨p, (hfs p).mpr m, .inr ⟨d, p, n, e1, rfl⟩⟩
        have yl : ys.length ≤ 12 := Nat.le_trans (nd_len ynd fun z hz => by
          obtain ⟨q, hq, rfl⟩ := List.mem_map.mp ((mem z).mp hz)
          exact wo1.inn q hq) ne12
        exact ⟨_, ⟨by omega, ys, mem, yl, rfl⟩, by walk_at "zt"⟩
    · obtain ⟨hle, fs, hfs, hfl, rfl⟩ := hP
      rw [rangeD_len, show (((k + n : Nat) : Int) + 1 - ((k : Int) + 1)).toNat = n by omega] at hfs
      exact ws_ret (we_var rfl (h fs hfs hfl))
  case len => obtain ⟨a, b, c, d, e, rfl, _⟩ := h; rfl
end
end T25

namespace T25
open PySem PySem.Spec PyProof.Rows L2 Z
section
variable {P : Program} {w : World} {K : PySem.W.Frag} {mg : Str → Option Value} {base : Heap} {A : Adr}
def S_law_is_way : List AV → (D → Prop) → Prop := fun as Φ => ∃ ps es z, ∃ k n : Nat, ∃ e : Ev, ∃ w : List Nat, as = [.dat (.tup (es.map evD)), .dat (.lst (rowsD ps es es.length)), .dat (.tup (njD w)), .dat (.int ((k + n : Nat) : Int)), .dat (.str z), .dat (.int (k : Int))] ∧ OkP ps ∧ OkEs (ps.map (·.1)) es ∧ es[k]? = some e ∧ e.isPour = true ∧ k + n < es.length ∧
  IsWay es k n w z ∧ w.length ≤ 41 ∧ Φ (.bl true)
theorem ok_law_is_way (T : Txt K mg A w) : FnOk P w K mg base CX0 1 A.f_law_is_way A.d_law_is_way ["events", "totals", "value", "event", "name", "pour"] (spA K S_law_is_way) := by
  refine T.F_law_is_way.ok sc_law_is_way (fun vs H Q E h => spA_len h fun as Φ h => ?len) (fun cdv Ar outer s H vs Q E hr h => ?body)
  case body =>
    refine ⟨_, (pss_cons (ps_if (PW.pt (pw_or (pt_not (pt_val (pe_callB (show CallR _ _ (rIsi K) from call_isi) (by rfl) T.z_isinstance boot_isinstance (pa_cons (pv 2) (pa_cons (pe_bltn (v := .ty "tuple") rfl T.z_tuple (by decide +kernel) rfl) pa_nil))))) (pw_or (pt_cmpR (show OpR _ _ (rEqU K) from op_eqU hr) (pv 2) (pe_tup pa_nil) (nomark _)) (pw_or1 (pt_val (pe_callB (show CallR _ _ (rAny K) from cr_any rfl) (by rfl) T.z_any boot_any (pa_cons (pe_lc (own := [("each", 9)]) rfl sc_law_is_way.nd (pi_tup (pv 2)) (blkOk_by (N := ["events", "totals", "value", "event", "name", "pour", "here", "at", "kind", "each"]) (sc := defScope s_law_is_way) (by decide +kernel)) (fun _ _ _ _ _ => (pg_name (i := 9) sc_law_is_way.nd rfl (by first | exact Or.inl rfl | exact Or.inr rfl))) (fun _ _ _ _ _ => pts_nil) (fun _ _ _ _ _ => (pe_or (pe_not (pe_callB (show CallR _ _ (rIsi K) from call_isi) (by rfl) T.z_isinstance boot_isinstance (pa_cons (pv 9) (pa_cons (pe_bltn (v := .ty "int") rfl T.z_int (by decide +kernel) rfl) pa_nil)))) (pe_one (pe_callB (show CallR _ _ (rIsi K) from call_isi) (by rfl) T.z_isinstance boot_isinstance (pa_cons (pv 9) (pa_cons (pe_bltn (v := .ty "bool") rfl T.z_bool (by decide +kernel) rfl) pa_nil))))))) pa_nil))))))) (pss_one (ps_ret pe_bl)) pss_nil)
      (pss_cons (ps_if (PW.pt (pw_or (pt_cmpR (show OpR _ _ (rNeU K) from op_neU hr) (pe_ix (show IxR _ (rIx K) from ix_seq) (pv 2) pe_int (fun _ _ => rfl)) (pv 5) (nomark _)) (pw_or (pt_cmpR op_gt (pe_ix (show IxR _ (rIx K) from ix_seq) (pv 2) (pe_un un_neg pe_int) (fun _ _ => rfl)) (pv 3) (nomark _)) (pw_or1 (pt_val (pe_callB (show CallR _ _ (rAny K) from cr_any rfl) (by rfl) T.z_any boot_any (pa_cons (pe_lc (own := [("at", 7)]) rfl sc_law_is_way.nd (pi_range1 (by rfl) T.z_range (pa_cons (pe_op op_sub (pe_callB (show CallR _ _ (rLenU K) from call_lenU) (by rfl) T.z_len PySem.boot_len (pa_cons (pv 2) pa_nil)) pe_int) pa_nil)) (blkOk_by (N := ["events", "totals", "value", "event", "name", "pour", "here", "at", "kind", "each"]) (sc := defScope s_law_is_way) (by decide +kernel)) (fun _ _ _ _ _ => (pg_name (i := 7) sc_law_is_way.nd rfl (by first | exact Or.inl rfl | exact Or.inr rfl))) (fun _ _ _ _ _ => pts_nil) (fun _ _ _ _ _ => (pe_cmpR op_ge (pe_ix (show IxR _ (rIx K) from ix_seq) (pv 2) (pv 7) (fun _ _ => rfl)) (pe_ix (show IxR _ (rIx K) from ix_seq) (pv 2) (pe_op (show OpR _ _ (rAddU K) from op_addU) (pv 7) pe_int) (fun _ _ => rfl)) (nomark _)))) pa_nil))))))) (pss_one (ps_ret pe_bl)) pss_nil)
      (pss_cons (ps_set (i := 6) sc_law_is_way.nd rfl (by first | exact Or.inl rfl | exact Or.inr rfl) (pe_ix (show IxR _ (rIx K) from ix_seq) (pe_ix (show IxR _ (rIx K) from ix_seq) (pv 0) (pv 5) (fun _ _ => rfl)) pe_int (fun _ _ => rfl)))
      (pss_cons (ps_for PassesOwn.never rfl (pi_range2 (by rfl) T.z_range (pa_cons (pe_op (show OpR _ _ (rAddU K) from op_addU) (pv 5) pe_int) (pa_cons (pe_op (show OpR _ _ (rAddU K) from op_addU) (pv 3) pe_int) pa_nil))) (pg_name (i := 7) sc_law_is_way.nd rfl (by first | exact Or.inl rfl | exact Or.inr rfl)) (pss_cons (ps_set (i := 8) sc_law_is_way.nd rfl (by first | exact Or.inl rfl | exact Or.inr rfl) (pe_ix (show IxR _ (rIx K) from ix_seq) (pe_ix (show IxR _ (rIx K) from ix_seq) (pv 0) (pv 7) (fun _ _ => rfl)) pe_int (fun _ _ => rfl)))
      (pss_one (ps_if (pt_cmpR (show OpR _ _ (rInU K) from op_inU hr) (pv 7) (pv 2) (by rfl)) (pss_cons (ps_if (PW.pt (pw_or (pt_cmpR (show OpR _ _ (rNeU K) from op_neU hr) (pv 8) pe_str (nomark _)) (pw_or1 (pt_cmpR (show OpR _ _ (rNeU K) from op_neU hr) (pe_ix (show IxR _ (rIx K) from ix_seq) (pe_ix (show IxR _ (rIx K) from ix_seq) (pv 0) (pv 7) (fun _ _ => rfl)) pe_int (fun _ _ => rfl)) (pv 6) (nomark _))))) (pss_one (ps_ret pe_bl)) pss_nil)
      (pss_one (ps_set (i := 6) sc_law_is_way.nd rfl (by first | exact Or.inl rfl | exact Or.inr rfl) (pe_ix (show IxR _ (rIx K) from ix_seq) (pe_ix (show IxR _ (rIx K) from ix_seq) (pv 0) (pv 7) (fun _ _ => rfl)) pe_int (fun _ _ => rfl))))) (pss_one (ps_if (PW.pt (pw_and (pt_cmpR (show OpR _ _ (rInU K) from op_inU hr) (pv 8) (pe_lst (pa_cons pe_str (pa_cons pe_str (pa_cons pe_str pa_nil)))) (by rfl)) (pw_and1 (pt_cmpR (show OpR _ _ (rEqU K) from op_eqU hr) (pe_ix (show IxR _ (rIx K) from ix_seq) (pe_ix (show IxR _ (rIx K) from ix_seq) (pv 0) (pv 7) (fun _ _ => rfl)) pe_int (fun _ _ => rfl)) (pv 6) (nomark _))))) (pss_one (ps_if (pt_cmpR (show OpR _ _ (rEqU K) from op_eqU hr) (pe_dget (hu_of hr) (pe_ix (show IxR _ (rIx K) from ix_seq) (pv 1) (pv 7) (fun _ _ => rfl)) (pv 6) (fun _ _ => rfl)) (pe_ifExp (pt_cmpR (show OpR _ _ (rEqU K) from op_eqU hr) (pv 8) pe_str (nomark _)) (pe_ix (show IxR _ (rIx K) from ix_seq) (pe_ix (show IxR _ (rIx K) from ix_seq) (pv 0) (pv 7) (fun _ _ => rfl)) pe_int (fun _ _ => rfl)) (pe_ix (show IxR _ (rIx K) from ix_seq) (pe_ix (show IxR _ (rIx K) from ix_seq) (pv 0) (pv 7) (fun _ _ => rfl)) pe_int (fun _ _ => rfl))) (nomark _)) (pss_one (ps_ret pe_bl)) pss_nil)) pss_nil))))))
      (pss_one (ps_ret (pe_cmpR (show OpR _ _ (rEqU K) from op_eqU hr) (pv 6) (pv 4) (nomark _)))))))), fn_body (fun as Φ hs => ?_) vs H Q E h⟩
    obtain ⟨ps, es, z, k, n, e, w, rfl, op, oe, he, hp, hkn, W, wl, h⟩ := hs
    have e40 := oe.few
    have le : L2.atI (es.map evD) (k : Int) = some (evD e) := Z.atI_nat (by rw [List.getElem?_map, he]; rfl)
    have l2 : L2.atI (evL e) 2 = some (.str (hereF es k w 0)) := by
      unfold hereF
      rw [he]
      cases e with
      | pour => rfl
      | _ => cases hp
    have w1 : 0 < w.length := (List.getElem?_eq_some_iff.mp W.hd).1
    obtain ⟨lw, hlw⟩ : ∃ lw, w.getLast? = some lw := by
      cases c : w.getLast? with
      | none => rw [List.getLast?_eq_none_iff.mp c] at w1; simp at w1
      | some x => exact ⟨x, rfl⟩
    have lwm : lw ∈ w := List.mem_of_getLast? hlw
    have lle := W.le lw lwm
    refine ws_seq (ws_if (wt_or (wt_not (wt_B ?_))))
    refine we_cb ?_
    refine wa_cons ?_
    refine we_var rfl ?_
    refine wa_cons ?_
    refine we_ty ?_
    refine wa_nil ?_
    refine cs_isi (b := true) rfl (by decide +kernel) ?_
    refine ⟨_, rfl, nofun, fun _ => wt_or (wt_test ?_)⟩
    refine we_op ?_
    refine we_var rfl ?_
    refine we_tup ?_
    refine wa_nil ?_
    refine ⟨Nat.zero_le _, _, rfl, os_eq_nilT (fun j : Nat => D.int (j : Int)) (fun j => PyData.int (j : Int)) (fun _ _ => int_to _) (fun _ _ => int_can _) ⟨_, rfl, fun e => ?_, fun _ => wt_B ?_⟩⟩
    · have := of_decide_eq_true e
      rw [this] at w1; simp at w1
    refine we_cb (wa_cons (we_lcX (wr_name 9) (mono_name 9) (by simp) (wi_tup (we_var rfl ⟨_, rfl, Nat, w, fun j => .int (j : Int), fun _ => some (.bl false), rfl, by omega, fun j hj => ?_, ?_⟩))))
    · refine wg_name (wt_true ⟨fun _ => we_or (we_not ?_), nofun⟩)
      refine we_cb ?_
      refine wa_cons ?_
      refine we_var rfl ?_
      refine wa_cons ?_
      refine we_ty ?_
      refine wa_nil ?_
      refine cs_isi (b := true) rfl (by decide +kernel) ?_
      refine ⟨_, rfl, _, rfl, nofun, fun _ => ?_⟩
      refine we_cb ?_
      refine wa_cons ?_
      refine we_var rfl ?_
      refine wa_cons ?_
      refine we_ty ?_
      refine wa_nil ?_
      refine cs_isi (b := false) rfl (by decide +kernel) ?_
      rfl
    rw [fm_map, show w.map (fun _ => D.bl false) = (w.map fun _ => false).map D.bl by rw [List.map_map]; rfl]
    refine wa_nil (cs_any ?_)
    rw [show (w.map fun _ => false).any id = false by simp]
    refine ⟨_, rfl, nofun, fun _ => ws_next ?_⟩
    have l0 : L2.atI (njD w) 0 = some (.int (k : Int)) := Z.atI_nat (i := 0) (by rw [List.getElem?_map, W.hd]; rfl)
    refine ws_seq (ws_if (wt_or (wt_test ?_)))
    refine we_op ?_
    refine we_op ?_
    refine we_var rfl ?_
    refine we_int ?_
    refine os_ix_tup l0 ?_
    refine we_var rfl ?_
    refine os_ne_int ?_
    refine ⟨_, rfl, fun e => by simp at e, fun _ => wt_or (wt_test ?_)⟩
    refine we_op ?_
    refine we_op ?_
    refine we_var rfl ?_
    refine we_un ?_
    refine we_int ?_
    refine us_neg ?_
    refine os_ix_tup (atI_last (map_last hlw)) ?_
    refine we_var rfl ?_
    refine os_gt ?_
    refine ⟨_, rfl, fun e => by have := of_decide_eq_true e; omega, fun _ => wt_B ?_⟩
    refine we_cb (wa_cons (we_lcX (wr_name 7) (mono_name 7) (by simp) (wi_rng1 ?_)))
    refine wa_cons ?_
    refine we_op ?_
    refine we_cb ?_
    refine wa_cons ?_
    refine we_var rfl ?_
    refine wa_nil ?_
    refine cs_len rfl ?_
    refine we_int ?_
    refine os_sub ?_
    refine wa_nil ?_
    refine ⟨_, rfl, by rw [List.length_map]; omega, Nat, List.range (w.length - 1), fun j => .int ((0 : Int) + (j : Nat)), fun _ => some (.bl false), ?_, by rw [List.length_range]; omega, fun j hj => ?_, ?_⟩
    · rw [List.length_map]
      unfold rangeD
      rw [show ((w.length : Int) - 1).toNat = w.length - 1 by omega]
    · have hj1 := List.mem_range.mp hj
      have a1 : L2.atI (njD w) ((0 : Int) + (j : Nat)) = some (.int (w[j] : Int)) := by
        rw [show (0 : Int) + (j : Nat) = ((j : Nat) : Int) by omega]
        exact Z.atI_nat (by rw [List.getElem?_map, List.getElem?_eq_getElem (show j < w.length by omega)]; rfl)
      have a2 : L2.atI (njD w) ((0 : Int) + (j : Nat) + 1) = some (.int (w[j + 1] : Int)) := by
        rw [show (0 : Int) + (j : Nat) + 1 = ((j + 1 : Nat) : Int) by omega]
        exact Z.atI_nat (by rw [List.getElem?_map, List.getElem?_eq_getElem (show j + 1 < w.length by omega)]; rfl)
      refine wg_name (wt_true ⟨fun _ => ?_, nofun⟩)
      refine we_op ?_
      refine we_op ?_
      refine we_var rfl ?_
      refine we_var rfl ?_
      refine os_ix_tup a1 ?_
      refine we_op ?_
      refine we_var rfl ?_
      refine we_op ?_
      refine we_var rfl ?_
      refine we_int ?_
      refine os_add_int ?_
      refine os_ix_tup a2 ?_
      refine os_ge ?_
      have := List.pairwise_iff_getElem.mp W.asc j (j + 1) (by omega) (by omega) (by omega)
      rw [decide_eq_false (by omega)]
    rw [fm_map, show ∀ m, (List.range m).map (fun _ => D.bl false) = ((List.range m).map fun _ => false).map D.bl from fun m => by rw [List.map_map]; rfl]
    refine wa_nil (cs_any ?_)
    rw [show ∀ m, ((List.range m).map fun _ => false).any id = false from fun m => by simp]
    refine ⟨_, rfl, nofun, fun _ => ws_next ?_⟩
    refine ws_seq (ws_asg ?_)
    refine we_op ?_
    refine we_op ?_
    refine we_var rfl ?_
    refine we_var rfl ?_
    refine os_ix_tup le ?_
    refine we_int ?_
    refine os_ix_tup l2 ?_
    refine ws_forU (fun i δ' => i ≤ n ∧ δ' = [some (.dat (.tup (es.map evD))), some (.dat (.lst (rowsD ps es es.length))), some (.dat (.tup (njD w))), some (.dat (.int ((k + n : Nat) : Int))), some (.dat (.str z)), some (.dat (.int (k : Int))), some (.dat (.str (hereF es k w i))), none, none, none])
      ⟨_, ⟨Nat.zero_le _, rfl⟩, by walk_at "zt"⟩ ?_
    refine wi_rng2 ?_
    refine wa_cons ?_
    refine we_op ?_
    refine we_var rfl ?_
    refine we_int ?_
    refine os_add_int ?_
    refine wa_cons ?_
    refine we_op ?_
    refine we_var rfl ?_
    refine we_int ?_
    refine os_add_int ?_
    refine wa_nil ?_
    refine ⟨_, _, rfl, by omega, fun i d δ0 hi hP => ?_, fun δ0 hP => ?_⟩
    · obtain ⟨hle, rfl⟩ := hP
      obtain ⟨hin, hd⟩ := rng_at hi
      have hin : i < n := by omega
      obtain rfl : d = .int ((k + 1 + i : Nat) : Int) := by rw [hd]; congr 1
      clear hd hi
      have hxl : k + 1 + i < es.length := by omega
      obtain ⟨x, hx⟩ : ∃ x, es[k + 1 + i]? = some x := ⟨_, List.getElem?_eq_getElem hxl⟩
      have lx : L2.atI (es.map evD) ((k + 1 + i : Nat) : Int) = some (evD x) := Z.atI_nat (by rw [List.getElem?_map, hx]; rfl)
      have lr : L2.atI (rowsD ps es es.length) ((k + 1 + i : Nat) : Int) = some (rowD ps es (k + 1 + i)) := Z.atI_nat (rows_at ps es (by omega))
      have hin2 : hereF es k w i ∈ ps.map (·.1) := hereF_in oe he hp w i
      obtain ⟨g1, g2⟩ := W.go i hin x hx
      refine wg_name (ws_seq (ws_asg ?_))
      refine we_op ?_
      refine we_op ?_
      refine we_var rfl ?_
      refine we_var rfl ?_
      refine os_ix_tup lx ?_
      refine we_int ?_
      refine os_ix_tup (ev_kind x) ?_
      refine ws_if (wt_test (we_op (we_var rfl (we_var rfl ?_))))
      rw [wI_D]
      refine os_in_tupI ⟨_, rfl, fun e => ?_, fun e => ?_⟩
      · obtain ⟨d, q, c, rfl⟩ := g1 (mem_wI.mp (of_decide_eq_true e))
        have hs1 : hereF es k w (i + 1) = q := by
          rw [hereF, if_pos (mem_wI.mp (of_decide_eq_true e)), hx]
        refine ws_seq (ws_if (wt_or (wt_test ?_)))
        walk_at "zkt"
        refine os_ix_tup lx ?_
        walk_at "zkt"
        · simp at e
        · refine ws_next (ws_asg ?_)
          walk_at "zkt"
          refine os_ix_tup lx ?_
          walk_at "zkt"
          refine ⟨_, ⟨hin, rfl⟩, ?_⟩
          rw [hs1]
          walk_at "zt"
      · have nw : k + 1 + i ∉ w := fun q => of_decide_eq_false e (mem_wI.mpr q)
        have lft := g2 nw
        have hs1 : hereF es k w (i + 1) = hereF es k w i := by rw [hereF, if_neg nw]
        have fin : ∃ δ0, (i + 1 ≤ n ∧ δ0 = [some (.dat (.tup (es.map evD))), some (.dat (.lst (rowsD ps es es.length))), some (.dat (.tup (njD w))), some (.dat (.int ((k + n : Nat) : Int))), some (.dat (.str z)), some (.dat (.int (k : Int))), some (.dat (.str (hereF es k w (i + 1)))), none, none, none]) ∧
            Z.Le δ0 (([some (.dat (.tup (es.map evD))), some (.dat (.lst (rowsD ps es es.length))), some (.dat (.tup (njD w))), some (.dat (.int ((k + n : Nat) : Int))), some (.dat (.str z)), some (.dat (.int (k : Int))), some (.dat (.str (hereF es k w i))), some (.dat (.int ((k + 1 + i : Nat) : Int))), none, none] : Sl).set 8 (some (.dat (.str x.kind)))) := ⟨_, ⟨hin, rfl⟩, by rw [hs1]; walk_at "zt"⟩
        have tot : ∀ {Ψ : D → Prop} {δ : Sl}, δ[1]? = some (some (.dat (.lst (rowsD ps es es.length)))) → δ[7]? = some (some (.dat (.int ((k + 1 + i : Nat) : Int)))) → δ[6]? = some (some (.dat (.str (hereF es k w i)))) → Ψ (.int (hAt es (k + 1 + i) (hereF es k w i))) → Z.WE K false (tDGet (tOp (rIx K) (tVar 1) (tVar 7)) (tVar 6)) δ Ψ := fun h1 h5 h8 hh =>
          we_dget (we_op (we_var h1 (we_var h5 (os_ix_lst lr ⟨_, rfl, we_var h8 ⟨Sum.inr _, _, rfl, hD_val hin2, hh⟩⟩))))
        rw [wI_D] at fin
        refine ws_if (wt_and (wt_test ?_))
        cases x with
        | move d p q c =>
          walk_at "zkt"
          refine os_in_strs (ns := ["move", "away", "sample"]) ?_
          walk_at "zkt"
          refine os_ix_tup lx ?_
          walk_at "zkt"
          · have ep : p = hereF es k w i := by simpa using e
            have : isLeft (hAt es (k + 1 + i)) (hereF es k w i) (.move d p q c) = decide (c < hAt es (k + 1 + i) (hereF es k w i)) := if_pos ep
            rw [this] at lft
            have := of_decide_eq_true lft
            refine ws_if (wt_test (we_op (tot rfl rfl rfl ?_)))
            walk_at "zkt"
            refine os_ix_tup lx ?_
            walk_at "zkt"
            · have := of_decide_eq_true e
              omega
            · exact ws_next fin
          · exact ws_next fin
        | away d p c =>
          walk_at "zkt"
          refine os_in_strs (ns := ["move", "away", "sample"]) ?_
          walk_at "zkt"
          refine os_ix_tup lx ?_
          walk_at "zkt"
          · have ep : p = hereF es k w i := by simpa using e
            have : isLeft (hAt es (k + 1 + i)) (hereF es k w i) (.away d p c) = decide (c < hAt es (k + 1 + i) (hereF es k w i)) := if_pos ep
            rw [this] at lft
            have := of_decide_eq_true lft
            refine ws_if (wt_test (we_op (tot rfl rfl rfl ?_)))
            walk_at "zkt"
            refine os_ix_tup lx ?_
            walk_at "zkt"
            · have := of_decide_eq_true e
              omega
            · exact ws_next fin
          · exact ws_next fin
        | sample d p c lo hi =>
          walk_at "zkt"
          refine os_in_strs (ns := ["move", "away", "sample"]) ?_
          walk_at "zkt"
          refine os_ix_tup lx ?_
          walk_at "zkt"
          · have ep : p = hereF es k w i := by simpa using e
            have : isLeft (hAt es (k + 1 + i)) (hereF es k w i) (.sample d p c lo hi) = decide (c < hAt es (k + 1 + i) (hereF es k w i)) := if_pos ep
            rw [this] at lft
            have := of_decide_eq_true lft
            refine ws_if (wt_test (we_op (tot rfl rfl rfl ?_)))
            walk_at "zkt"
            refine os_ix_tup lx ?_
            walk_at "zkt"
            · have := of_decide_eq_true e
              omega
            · exact ws_next fin
          · exact ws_next fin
        | _ =>
          walk_at "zkt"
          refine os_in_strs (ns := ["move", "away", "sample"]) ?_
          walk_at "zkt"
          exact ws_next fin
    · obtain ⟨hle, rfl⟩ := hP
      rw [rangeD_len, show (((k + n : Nat) : Int) + 1 - ((k : Int) + 1)).toNat = n by omega, W.fin]
      refine ws_ret ?_
      refine we_op ?_
      refine we_var rfl ?_
      refine we_var rfl ?_
      refine os_eq_str ?_
      rw [decide_eq_true rfl]
      exact h
  case len => obtain ⟨a, b, c, d, e, f, g, rfl, _⟩ := h; rfl
end
end T25

namespace T25
open PySem PySem.Spec PyProof.Rows L2 Z
def pIx (es : List Ev) : List Nat := (List.range es.length).filter fun i => (es[i]?.map (·.isPour)).getD false
theorem pIx_mem {es : List Ev} {k : Nat} (h : k ∈ pIx es) : ∃ e, es[k]? = some e ∧ e.isPour = true := by
  have := (List.mem_filter.mp h).2
  cases c : es[k]? with
  | none => rw [c] at this; cases this
  | some e => rw [c] at this; exact ⟨e, rfl, this⟩
section
variable {P : Program} {w : World} {K : PySem.W.Frag} {mg : Str → Option Value} {base : Heap} {A : Adr}
def S_law_asked : List AV → (D → Prop) → Prop := fun as Φ => ∃ (ps : Pl) (es : List Ev) (many : Nat), as = [.well, .dat (.tup (ps.map pD)), .dat (.tup (es.map evD)), .dat (.int (many : Int))] ∧ OkP ps ∧ OkEs (ps.map (·.1)) es ∧ many ≤ 100 ∧ Φ (.bl true)
theorem ok_law_asked (T : Txt K mg A w) : FnOk P w K mg base CX0 9 A.f_law_asked A.d_law_asked ["well", "places", "events", "many"] (spA K S_law_asked) := by
  have G_law_follow := ok_law_follow (P := P) (w := w) (base := base) T
  have G_law_is_way := ok_law_is_way (P := P) (w := w) (base := base) T
  have G_law_pick := ok_law_pick (P := P) (w := w) (base := base) T
  have G_law_pours := ok_law_pours (P := P) (w := w) (base := base) T
  have G_law_same := ok_law_same (P := P) (w := w) (base := base) T 4
  have G_law_take := ok_law_take (P := P) (w := w) (base := base) T
  have G_law_totals := ok_law_totals (P := P) (w := w) (base := base) T
  have G_is_linked := ok_is_linked (P := P) (w := w) (base := base) T
  have G_way := ok_way (P := P) (w := w) (base := base) T
  have G_Hall_init := ok_Hall_init (P := P) (w := w) (base := base) T
  refine T.F_law_asked.ok sc_law_asked (fun vs H Q E h => spA_len h fun as Φ h => ?len) (fun cdv Ar outer s H vs Q E hr h => ?body)
  case body =>
    have hrm_Hall := hr.mono (k := _) (j := _) (by decide : 8 ≤ 8)
    have hr_law_follow := hr.mono (k := _) (j := _) (by decide : 1 ≤ 8)
    have hr_law_is_way := hr.mono (k := _) (j := _) (by decide : 1 ≤ 8)
    have hr_law_pick := hr.mono (k := _) (j := _) (by decide : 2 ≤ 8)
    have hr_law_pours := hr.mono (k := _) (j := _) (by decide : 1 ≤ 8)
    have hr_law_same := hr.mono (k := _) (j := _) (by decide : 4 ≤ 8)
    have hr_law_take := hr.mono (k := _) (j := _) (by decide : 1 ≤ 8)
    have hr_law_totals := hr.mono (k := _) (j := _) (by decide : 1 ≤ 8)
    have hr_is_linked := hr.mono (k := _) (j := _) (by decide : 6 ≤ 8)
    have hr_way := hr.mono (k := _) (j := _) (by decide : 6 ≤ 8)
    refine ⟨_, (pss_cons (ps_par3 (i := 4) (j := 5) (l := 6) rfl sc_law_asked.nd rfl rfl rfl (by decide) (by decide) (by decide) rfl rfl rfl (pa_cons (pe_make T.M_Hall G_Hall_init hrm_Hall rfl T.m_Hall T.b_Hall_init .nil pass0 (pa_cons (pv 1) (pa_cons (pv 2) pa_nil))) (pa_cons (pe_call G_law_totals hr_law_totals rfl T.m_law_totals T.F_law_totals.kp T.b_law_totals .nil pass0 (pa_cons (pv 1) (pa_cons (pv 2) pa_nil))) (pa_cons (pe_call G_law_pours hr_law_pours rfl T.m_law_pours T.F_law_pours.kp T.b_law_pours .nil pass0 (pa_cons (pv 2) pa_nil)) pa_nil))) rfl)
      (pss_cons (ps_for PassesOwn.never rfl (pi_range1 (by rfl) T.z_range (pa_cons (pe_ifExp (pt_cmpR (show OpR _ _ (rNeU K) from op_neU hr) (pv 6) (pe_lst pa_nil) (nomark _)) (pv 3) pe_int) pa_nil)) (pg_name (i := 7) sc_law_asked.nd rfl (by first | exact Or.inl rfl | exact Or.inr rfl)) (pss_cons (ps_set (i := 8) sc_law_asked.nd rfl (by first | exact Or.inl rfl | exact Or.inr rfl) (pe_call G_law_pick hr_law_pick rfl T.m_law_pick T.F_law_pick.kp T.b_law_pick .nil pass0 (pa_cons (pv 0) (pa_cons (pv 6) pa_nil))))
      (pss_cons (ps_set (i := 9) sc_law_asked.nd rfl (by first | exact Or.inl rfl | exact Or.inr rfl) (pe_ifExp (pt_cmpR (show OpR _ _ (rEqU K) from op_eqU hr) (pv 7) pe_int (nomark _)) (pe_op op_sub (pe_callB (show CallR _ _ (rLenU K) from call_lenU) (by rfl) T.z_len PySem.boot_len (pa_cons (pv 2) pa_nil)) pe_int) (pe_op (show OpR _ _ (rAddU K) from op_addU) (pv 8) (pe_call G_law_take hr_law_take rfl T.m_law_take T.F_law_take.kp T.b_law_take .nil pass0 (pa_cons (pv 0) (pa_cons (pe_op op_sub (pe_callB (show CallR _ _ (rLenU K) from call_lenU) (by rfl) T.z_len PySem.boot_len (pa_cons (pv 2) pa_nil)) (pv 8)) pa_nil))))))
      (pss_cons (ps_set (i := 10) sc_law_asked.nd rfl (by first | exact Or.inl rfl | exact Or.inr rfl) (pe_call G_law_follow hr_law_follow rfl T.m_law_follow T.F_law_follow.kp T.b_law_follow .nil pass0 (pa_cons (pv 2) (pa_cons (pv 5) (pa_cons (pv 8) (pa_cons (pv 9) pa_nil))))))
      (pss_one (ps_for PassesOwn.never rfl (pi_tup (pv 1)) (show PG _ _ (gTup K _ _) from pg_tup (n := 2) rfl (pgs_cons (pg_name (i := 11) sc_law_asked.nd rfl (by first | exact Or.inl rfl | exact Or.inr rfl)) (pgs_cons (pg_name (i := 12) sc_law_asked.nd rfl (by first | exact Or.inl rfl | exact Or.inr rfl)) pgs_nil))) (pss_cons (ps_set (i := 13) sc_law_asked.nd rfl (by first | exact Or.inl rfl | exact Or.inr rfl) (pe_ifExp (pt_cmpR op_gt (pv 7) pe_int (nomark _)) (pe_call G_is_linked hr_is_linked rfl T.m_is_linked T.F_is_linked.kp T.b_is_linked .nil pass0 (pa_cons (pv 4) (pa_cons (pv 9) (pa_cons (pv 11) (pa_cons (pv 8) pa_nil))))) (pe_callK0 G_is_linked hr_is_linked rfl T.m_is_linked T.F_is_linked.kp T.kb_is_linked pass0 (pk_cons (pv 8) (pk_cons (pv 11) (pk_cons (pv 9) (pk_cons (pv 4) pk_nil)))))))
      (pss_cons (ps_if (pt_not (pt_val (pe_call G_law_same hr_law_same rfl T.m_law_same T.F_law_same.kp T.b_law_same .nil pass0 (pa_cons (pv 13) (pa_cons (pe_cmpR (show OpR _ _ (rInU K) from op_inU hr) (pv 11) (pv 10) (by rfl)) pa_nil))))) (pss_one (ps_ret pe_bl)) pss_nil)
      (pss_cons (ps_set (i := 14) sc_law_asked.nd rfl (by first | exact Or.inl rfl | exact Or.inr rfl) (pe_ifExp (pt_cmpR op_gt (pv 7) pe_int (nomark _)) (pe_call G_way hr_way rfl T.m_way T.F_way.kp T.b_way .nil pass0 (pa_cons (pv 4) (pa_cons (pv 9) (pa_cons (pv 11) (pa_cons (pv 8) pa_nil))))) (pe_callK0 G_way hr_way rfl T.m_way T.F_way.kp T.kb_way pass0 (pk_cons (pv 11) (pk_cons (pv 8) (pk_cons (pv 4) (pk_cons (pv 9) pk_nil)))))))
      (pss_one (ps_if (PW.pt (pw_or (PW.pt (pw_and (pt_cmpR (show OpR _ _ (rNotInU K) from op_notInU hr) (pv 11) (pv 10) (by rfl)) (pw_and1 (pt_cmpR op_notN (pv 14) pe_non (nomark _))))) (pw_or1 (PW.pt (pw_and (pt_cmpR (show OpR _ _ (rInU K) from op_inU hr) (pv 11) (pv 10) (by rfl)) (pw_and1 (pt_not (pt_val (pe_call G_law_is_way hr_law_is_way rfl T.m_law_is_way T.F_law_is_way.kp T.b_law_is_way .nil pass0 (pa_cons (pv 2) (pa_cons (pv 5) (pa_cons (pv 14) (pa_cons (pv 9) (pa_cons (pv 11) (pa_cons (pv 8) pa_nil))))))))))))))) (pss_one (ps_ret pe_bl)) pss_nil)))))))))))
      (pss_one (ps_ret pe_bl)))), fn_body (fun as Φ hs => ?_) vs H Q E h⟩
    obtain ⟨ps, es, many, rfl, op, oe, hm, h⟩ := hs
    have e40 := oe.few
    have n12 := op.n12
    refine ws_seq (ws_par3 (wp_dat (we_make ?_)))
    refine wa_cons ?_
    refine we_var rfl ?_
    refine wa_cons ?_
    refine we_var rfl ?_
    refine wa_nil ?_
    refine ⟨ps, es, rfl, op, oe, wp_dat ?_⟩
    refine we_call ?_
    refine wa_cons ?_
    refine we_var rfl ?_
    refine wa_cons ?_
    refine we_var rfl ?_
    refine wa_nil ?_
    refine ⟨ps, es, rfl, op, oe, wp_dat ?_⟩
    refine we_call ?_
    refine wa_cons ?_
    refine we_var rfl ?_
    refine wa_nil ?_
    refine ⟨es, rfl, e40, wp_nil ⟨_, _, _, rfl, ?_⟩⟩
    show WS K _ [some .well, some (.dat (.tup (ps.map pD))), some (.dat (.tup (es.map evD))), some (.dat (.int (many : Int))), some (.dat (hallD A ps es)), some (.dat (.lst (rowsD ps es es.length))), some (.dat (.lst ((pIx es).map fun (j : Nat) => D.int (j : Int)))), none, none, none, none, none, none, none, none] _
    have pl40 : (pIx es).length ≤ 40 := by
      have := List.length_filter_le (fun i => (es[i]?.map (·.isPour)).getD false) (List.range es.length)
      rw [List.length_range] at this
      show ((List.range es.length).filter _).length ≤ 40
      omega
    refine ws_forU (fun i δ' => δ' = [some .well, some (.dat (.tup (ps.map pD))), some (.dat (.tup (es.map evD))), some (.dat (.int (many : Int))), some (.dat (hallD A ps es)), some (.dat (.lst (rowsD ps es es.length))), some (.dat (.lst ((pIx es).map fun (j : Nat) => D.int (j : Int)))), none, none, none, none, none, none, none, none]) ⟨_, rfl, by walk_at "zt"⟩
      (wi_rng1 (wa_cons (WE.imp (Φ := fun d => d = .int ((if pIx es = [] then 0 else many : Nat) : Int)) ?_ fun d hd => ?_)))
    · refine we_if (wt_test ?_)
      refine we_op ?_
      refine we_var rfl ?_
      refine we_lst ?_
      refine wa_nil ?_
      refine ⟨Nat.zero_le _, _, rfl, os_ne_nilL (fun j : Nat => D.int (j : Int)) (fun j => PyData.int (j : Int)) (fun _ _ => int_to _) (fun _ _ => int_can _) ⟨_, rfl, fun e => we_var rfl ?_, fun e => we_int ?_⟩⟩
      · rw [if_neg (by simpa using e)]
      · rw [if_pos (by simpa using e)]; rfl
    · subst hd
      have mb : (if pIx es = [] then 0 else many : Nat) ≤ 100 := by split <;> omega
      refine wa_nil ⟨_, rfl, by omega, fun i d δ0 hi hP => ?_, fun δ0 hP => by subst hP; exact ws_ret (we_bl h)⟩
      subst hP
      obtain ⟨him, rfl⟩ := rng_at hi
      have ne : pIx es ≠ [] := fun z => by rw [if_pos z] at him; simp at him
      have hlp : 0 < (pIx es).length := List.length_pos_iff.mpr ne
      refine wg_name (ws_seq (ws_asg ?_))
      refine we_call ?_
      refine wa_well rfl ?_
      refine wa_cons ?_
      refine we_var rfl ?_
      refine wa_nil ?_
      refine ⟨_, _, rfl, .inl rfl, by rw [List.length_map]; exact hlp, by rw [List.length_map]; omega, fun d hd => ?_⟩
      obtain ⟨k, hk, rfl⟩ := List.mem_map.mp hd
      obtain ⟨e, he, hp⟩ := pIx_mem hk
      have hkl := (List.getElem?_eq_some_iff.mp he).1
      refine ws_seq (ws_asg (WE.imp (Φ := fun d => ∃ n : Nat, d = .int ((k + n : Nat) : Int) ∧ k + n < es.length) ?_ fun d hd => ?_))
      · refine we_if (wt_test ?_)
        refine we_op ?_
        refine we_var rfl ?_
        refine we_int ?_
        refine os_eq_int ?_
        refine ⟨_, rfl, fun _ => ?_, fun _ => ?_⟩
        · refine we_op ?_
          refine we_cb ?_
          refine wa_cons ?_
          refine we_var rfl ?_
          refine wa_nil ?_
          refine cs_len rfl ?_
          refine we_int ?_
          refine os_sub ?_
          refine ⟨es.length - 1 - k, ?_, by omega⟩
          rw [List.length_map]
          congr 1; omega
        · refine we_up ?_
          refine we_op ?_
          refine we_var rfl ?_
          refine we_call ?_
          refine wa_well rfl ?_
          refine wa_cons ?_
          refine we_op ?_
          refine we_cb ?_
          refine wa_cons ?_
          refine we_var rfl ?_
          refine wa_nil ?_
          refine cs_len rfl ?_
          refine we_var rfl ?_
          refine os_sub ?_
          refine wa_nil ?_
          rw [List.length_map]
          refine ⟨_, rfl, by omega, by omega, fun y y0 y1 => os_add_int ⟨trivial, y.toNat, ?_, by omega⟩⟩
          congr 1; omega
      obtain ⟨n, rfl, hkn⟩ := hd
      refine ws_seq (ws_asg ?_)
      refine we_call ?_
      refine wa_cons ?_
      refine we_var rfl ?_
      refine wa_cons ?_
      refine we_var rfl ?_
      refine wa_cons ?_
      refine we_var rfl ?_
      refine wa_cons ?_
      refine we_var rfl ?_
      refine wa_nil ?_
      refine ⟨ps, es, k, n, e, rfl, op, oe, he, hp, hkn, fun fs hfs hfl => ?_⟩
      have hd : ∀ z : Str, decide (z ∈ fs) = decide (z ∈ (waysN es k n).map (·.1)) := fun z => decide_eq_decide.mpr (hfs z)
      refine ws_forE (fun j δ' => δ' = [some .well, some (.dat (.tup (ps.map pD))), some (.dat (.tup (es.map evD))), some (.dat (.int (many : Int))), some (.dat (hallD A ps es)), some (.dat (.lst (rowsD ps es es.length))), some (.dat (.lst ((pIx es).map fun (j : Nat) => D.int (j : Int)))), some (.dat (.int ((0 : Int) + (i : Int)))), some (.dat (.int (k : Int))), some (.dat (.int ((k + n : Nat) : Int))), some (.dat (.lst (fs.map D.str))), none, none, none, none]) ⟨_, rfl, by walk_at "zt"⟩
        (wi_tup (we_var rfl ⟨_, rfl, fun j d δ0 hj hP => ?_, fun δ0 δ' hP l => ⟨_, rfl, Z.Le.trans (by subst hP; walk_at "zt") l⟩⟩))
      subst hP
      obtain ⟨q, hq, rfl⟩ := map_at hj
      have hz : q.1 ∈ ps.map (·.1) := List.mem_map_of_mem (f := (·.1)) (List.mem_of_getElem? hq)
      have lk : LkOk ps es q.1 k n := ⟨op, oe, hz, ⟨e, he, hp⟩, hkn⟩
      refine wg_tup rfl (wgs_cons (wg_name (wgs_cons (wg_name (wgs_nil ?_)))))
      refine ws_seq (ws_asg (WE.imp (Φ := fun d => d = .bl (decide (q.1 ∈ (waysN es k n).map (·.1)))) ?_ fun d hd2 => ?_))
      · refine we_if (wt_test ?_)
        refine we_op ?_
        refine we_var rfl ?_
        refine we_int ?_
        refine os_gt ?_
        refine ⟨_, rfl, fun _ => ?_, fun _ => we_callR ?_⟩
        · refine we_call ?_
          refine wa_cons ?_
          refine we_var rfl ?_
          refine wa_cons ?_
          refine we_var rfl ?_
          refine wa_cons ?_
          refine we_var rfl ?_
          refine wa_cons ?_
          refine we_var rfl ?_
          refine wa_nil ?_
          exact ⟨ps, es, q.1, k, n, rfl, lk, rfl⟩
        · refine wa_cons ?_
          refine we_var rfl ?_
          refine wa_cons ?_
          refine we_var rfl ?_
          refine wa_cons ?_
          refine we_var rfl ?_
          refine wa_cons ?_
          refine we_var rfl ?_
          refine wa_nil ?_
          exact ⟨ps, es, q.1, k, n, rfl, lk, rfl⟩
      subst hd2
      refine ws_seq (ws_if (wt_not (wt_B ?_)))
      refine we_call ?_
      refine wa_cons ?_
      refine we_var rfl ?_
      refine wa_cons ?_
      refine we_op ?_
      refine we_var rfl ?_
      refine we_var rfl ?_
      refine os_in_strs ?_
      rw [hd]
      refine wa_nil ⟨_, rfl, trivial, true, rfl, nofun, fun _ => ws_next ?_⟩
      refine ws_seq (ws_asg (WE.imp (Φ := fun d => d = wayD (waysN es k n) q.1) ?_ fun d hd2 => ?_))
      · refine we_if (wt_test ?_)
        refine we_op ?_
        refine we_var rfl ?_
        refine we_int ?_
        refine os_gt ?_
        refine ⟨_, rfl, fun _ => ?_, fun _ => we_callP (permW []) (fun _ _ _ vs as r => perm_rep vs as r) ?_⟩
        · refine we_call ?_
          refine wa_cons ?_
          refine we_var rfl ?_
          refine wa_cons ?_
          refine we_var rfl ?_
          refine wa_cons ?_
          refine we_var rfl ?_
          refine wa_cons ?_
          refine we_var rfl ?_
          refine wa_nil ?_
          exact ⟨ps, es, q.1, k, n, rfl, lk, rfl⟩
        · refine wa_cons ?_
          refine we_var rfl ?_
          refine wa_cons ?_
          refine we_var rfl ?_
          refine wa_cons ?_
          refine we_var rfl ?_
          refine wa_cons ?_
          refine we_var rfl ?_
          refine wa_nil ?_
          exact ⟨ps, es, q.1, k, n, rfl, lk, rfl⟩
      subst hd2
      refine ws_if (wt_or (wt_and (wt_test ?_)))
      refine we_op ?_
      refine we_var rfl ?_
      refine we_var rfl ?_
      refine os_notIn_strs ?_
      rw [hd]
      cases g : wGet (waysN es k n) q.1 with
      | none =>
        have wd : wayD (waysN es k n) q.1 = .non := by unfold wayD; rw [g]
        rw [decide_eq_false (wGet_none.mp g), wd]
        refine ⟨_, rfl, fun _ => wt_test ?_, nofun⟩
        refine we_op ?_
        refine we_var rfl ?_
        refine we_non ?_
        refine os_notN nofun ⟨_, rfl, nofun, fun _ => wt_and (wt_test ?_)⟩
        refine we_op ?_
        refine we_var rfl ?_
        refine we_var rfl ?_
        refine os_in_strs ?_
        rw [hd, decide_eq_false (wGet_none.mp g)]
        exact ⟨_, rfl, nofun, fun _ => ⟨nofun, fun _ => ws_next ⟨_, rfl, by walk_at "zt"⟩⟩⟩
      | some w =>
        have wd : wayD (waysN es k n) q.1 = .tup (njD w) := by unfold wayD; rw [g]
        have wm : q.1 ∈ (waysN es k n).map (·.1) := List.mem_map.mpr ⟨_, wGet_mem g, rfl⟩
        rw [decide_eq_true wm, wd]
        refine ⟨_, rfl, nofun, fun _ => ⟨nofun, fun _ => wt_and (wt_test ?_)⟩⟩
        refine we_op ?_
        refine we_var rfl ?_
        refine we_var rfl ?_
        refine os_in_strs ?_
        rw [hd, decide_eq_true wm]
        refine ⟨_, rfl, fun _ => wt_not (wt_B ?_), nofun⟩
        have W := waysN_way (wGet_mem g) hkn
        have wl := (waysN_ok oe he hp n).len _ (wGet_mem g)
        refine we_call ?_
        refine wa_cons ?_
        refine we_var rfl ?_
        refine wa_cons ?_
        refine we_var rfl ?_
        refine wa_cons ?_
        refine we_var rfl ?_
        refine wa_cons ?_
        refine we_var rfl ?_
        refine wa_cons ?_
        refine we_var rfl ?_
        refine wa_cons ?_
        refine we_var rfl ?_
        refine wa_nil ?_
        refine ⟨ps, es, q.1, k, n, e, w, rfl, op, oe, he, hp, hkn, W, by simp at wl; omega, true, rfl, nofun, fun _ => ws_next ⟨_, rfl, by walk_at "zt"⟩⟩
  case len => obtain ⟨a, b, c, rfl, _⟩ := h; rfl
end
end T25

namespace T25
open PySem PySem.Spec PyProof.Rows L2 Z
section
variable {P : Program} {w : World} {K : PySem.W.Frag} {mg : Str → Option Value} {base : Heap} {A : Adr}
theorem seq_at {B : Z.Act} {M : AS} {H : Hp} {σ : L2.St} {δ : Sl} {ts tu : TS} {De : Ends} {N : Sl → Prop} (h : WS K ts δ { nx := N, rt := fun _ => False }) (S : Sat K B M H σ δ) (k : ∀ M' H' σ' δ', Ext M H M' H' → Sat K B M' H' σ' δ' → N δ' → tu De σ' H') : tSeq ts tu De σ H :=
  h B M H σ S { De with nx := tu De } k (fun _ _ _ _ _ _ p => p.elim) (fun _ _ _ _ _ _ p => p.elim) (fun _ _ _ _ _ _ _ _ p => p.elim)
def spWell (K : PySem.W.Frag) : Sp := fun vs H Q _ => ∃ (a : Addr) (ns : List Int) (t : Nat), vs = [.ref a, .int (t : Int)] ∧ SqL K H a (ns.map V.int) ∧ ns.length ≤ 63 ∧ t ≤ 63 ∧ ∀ H' p, (∀ b o, H b = some o → H' b = some o) → H p = none → WellAt H' p → Q (.ref p) H'
theorem ok_law_well (T : Txt K mg A w) : FnOk P w K mg base CX0 1 A.f_law_well A.d_law_well ["script", "turn"] (spWell K) := by
  refine T.F_law_well.ok sc_law_well (fun vs H Q E h => ?len) (fun cdv Ar outer s H vs Q E hr h => ?body)
  case len => obtain ⟨_, _, _, rfl, _⟩ := h; rfl
  case body =>
    refine ⟨_, (pss_cons (ps_set (i := 2) sc_law_well.nd rfl (by first | exact Or.inl rfl | exact Or.inr rfl) (pe_ifExp (pt_cmpR op_ltU (pv 1) (pe_callB (show CallR _ _ (rLenU K) from call_lenU) (by rfl) T.z_len PySem.boot_len (pa_cons (pv 0) pa_nil)) (nomark _)) (pe_callTy call_int1 (by rfl) T.z_int PyProof.Rows.boot_int (pa_cons (pe_ix (show IxR _ (rIx K) from ix_seq) (pv 0) (pv 1) (fun _ _ => rfl)) pa_nil)) (pe_op (show OpR _ _ (rAddU K) from op_addU) (pe_op (show OpR _ _ (rAddU K) from op_addU) (pe_op op_mul pe_int (pv 1)) (pe_op op_mod (pe_callTy call_int1 (by rfl) T.z_int PyProof.Rows.boot_int (pa_cons (pe_callB (show CallR _ _ (rSum K) from cr_sum rfl) (by rfl) T.z_sum boot_sum (pa_cons (pe_slice (show SlR _ (rSlU K) from sl_U) (pv 0) po_none (po_some pe_int)) pa_nil)) pa_nil)) pe_int)) pe_int)))
      (pss_cons (ps_set (i := 3) sc_law_well.nd rfl (by first | exact Or.inl rfl | exact Or.inr rfl) (pe_op (show OpR _ _ (rAddU K) from op_addU) pe_int (pe_op op_mul pe_int (pv 1))))
      (pss_cons (ps_for PassesOwn.never rfl (pi_list (pe_op (show OpR _ _ (rAddU K) from op_addU) (pe_slice (show SlR _ (rSlU K) from sl_U) (pv 0) po_none (po_some pe_int)) (pe_lst (pa_cons (pv 2) pa_nil)))) (pg_name (i := 4) sc_law_well.nd rfl (by first | exact Or.inl rfl | exact Or.inr rfl)) (pss_one (ps_set (i := 3) sc_law_well.nd rfl (by first | exact Or.inl rfl | exact Or.inr rfl) (pe_op op_mod (pe_callTy call_int1 (by rfl) T.z_int PyProof.Rows.boot_int (pa_cons (pe_op (show OpR _ _ (rAddU K) from op_addU) (pe_op (show OpR _ _ (rAddU K) from op_addU) (pe_op op_mul (pv 3) pe_int) (pe_op op_mod (pe_callTy call_int1 (by rfl) T.z_int PyProof.Rows.boot_int (pa_cons (pv 4) pa_nil)) pe_int)) pe_int) pa_nil)) pe_int))))
      (pss_one (ps_ret (pe_lst (pa_cons (pe_ifExp (PW.pt (pw_or (pt_cmpR op_ltU (pv 2) pe_int (nomark _)) (pw_or1 (pt_cmpR op_ge (pv 2) (pe_op op_pow pe_int pe_int) (nomark _))))) (pe_callB call_abs (by rfl) T.z_abs boot_abs (pa_cons (pv 2) pa_nil)) pe_int) (pa_cons (pv 3) (pa_cons pe_int pa_nil)))))))))
, ?_⟩
    obtain ⟨a, ns, t, rfl, hq, hl, ht, k⟩ := h
    let B : Z.Act := ⟨fun _ => False, fun _ => False, H⟩
    let M : AS := fun _ => False
    have hfl : Rep K M H (.ref a) (.fl ns) := .fl (hq.elim (fun r => .inl ⟨r, fun f => f⟩) .inr)
    have S0 : Sat K B M H [some (.ref a), some (.int (t : Int)), none, none, none] [some (.dat (.fl ns)), some (.dat (.int (t : Int))), none, none, none] := by
      refine ⟨fun i av e => ?_, fun i j av bv b hne ei ej oi oj _ _ => ?_, rfl, fun a m => m.elim, fun a m => m, fun a m => m, fun a m => m.elim, fun a m => m.elim, fun a m => m.elim, Z.Fr.refl⟩
      · match i, e with
        | 0, e => cases e; exact ⟨_, rfl, hfl⟩
        | 1, e => cases e; exact ⟨_, rfl, .int _⟩
        | 2, e => cases e
        | 3, e => cases e
        | 4, e => cases e
        | i + 5, e => simp at e
      · match i, ei with
        | 0, e => cases e; cases oi
        | 1, e => cases e; cases oi
        | 2, e => cases e
        | 3, e => cases e
        | 4, e => cases e
        | i + 5, e => simp at e
    refine seq_at (N := fun δ' => ∃ own : Int, δ' = [some (.dat (.fl ns)), some (.dat (.int (t : Int))), some (.dat (.int own)), none, none]) (ws_asg (we_if (wt_test (we_op (we_var rfl (we_cb (wa_cons (we_var rfl (wa_nil (cs_len rfl (os_lt_int ⟨_, rfl, fun e => ?_, fun e => ?_⟩))))))))))) S0 fun M1 H1 σ1 δ1 e1 S1 ⟨own, hδ1⟩ => ?_
    · have e := of_decide_eq_true e
      have htn : t < ns.length := by omega
      exact we_cb (wa_cons (we_op (we_var rfl (we_var rfl (os_ix_fl (Z.atI_nat (List.getElem?_eq_getElem htn)) (wa_nil (cs_int ⟨_, rfl⟩)))))))
    · refine we_op (we_op (we_op (we_int (we_var rfl (os_mul (.inl ⟨by omega, by omega⟩) ?_)))))
      refine we_op (we_cb (wa_cons (we_cb (wa_cons (we_sl (we_var rfl (wo_none (wo_some (we_int ⟨_, rfl, ss_fl (wa_nil (cs_sum (wa_nil (cs_int (we_int (os_mod (by omega) (os_add_int (we_int (os_add_int ⟨_, rfl⟩)))))))))⟩)))))))))
    subst hδ1
    refine seq_at (N := fun δ' => ∃ stir : Int, 0 ≤ stir ∧ stir < 2147483648 ∧ δ' = [some (.dat (.fl ns)), some (.dat (.int (t : Int))), some (.dat (.int own)), some (.dat (.int stir)), none]) (ws_asg (we_op (we_int (we_op (we_int (we_var rfl (os_mul (.inl ⟨by omega, by omega⟩) (os_add_int ⟨_, by omega, by omega, rfl⟩)))))))) S1 fun M2 H2 σ2 δ2 e2 S2 ⟨stir, s0, s1, hδ2⟩ => ?_
    subst hδ2
    refine seq_at (N := Up fun δ' => ∃ stir : Int, 0 ≤ stir ∧ stir < 2147483648 ∧ δ' = [some (.dat (.fl ns)), some (.dat (.int (t : Int))), some (.dat (.int own)), some (.dat (.int stir)), none])
      (ws_forE (fun _ δ' => ∃ stir : Int, 0 ≤ stir ∧ stir < 2147483648 ∧ δ' = [some (.dat (.fl ns)), some (.dat (.int (t : Int))), some (.dat (.int own)), some (.dat (.int stir)), none]) ⟨_, ⟨stir, s0, s1, rfl⟩, Le.refl⟩
        (wi_list (we_op (we_sl (we_var rfl (wo_none (wo_some (we_int ⟨_, rfl, ss_fl (we_lst (wa_cons (we_var rfl (wa_nil ⟨(by show 1 ≤ 100000; decide), _, rfl, os_cat ?_ ⟨_, rfl, fun i d δ0 hi hP => ?_, fun δ0 δ' hP le => ⟨_, hP, le⟩⟩⟩))))⟩)))))))) S2 fun M3 H3 σ3 δ3 e3 S3 ⟨δ4, ⟨stir, s0, s1, hδ4⟩, le⟩ => ?_
    · rw [List.length_map]
      unfold cutI
      rw [List.length_take, List.length_drop]
      show _ + 1 ≤ 100000
      omega
    · obtain ⟨stir, s0, s1, rfl⟩ := hP
      obtain ⟨c, rfl⟩ : ∃ c : Int, d = .int c := by
        rcases List.mem_append.mp (List.mem_of_getElem? hi) with m | m
        · obtain ⟨c, _, rfl⟩ := List.mem_map.mp m
          exact ⟨c, rfl⟩
        · simp at m
          exact ⟨own, m⟩
      refine wg_name (ws_asg (we_op (we_cb (wa_cons (we_op (we_op (we_op (we_var rfl (we_int (os_mul (.inl ⟨by omega, by omega⟩) (we_op (we_cb (wa_cons (we_var rfl (wa_nil (cs_int (we_int (os_mod (by omega) (os_add_int (we_int (os_add_int (wa_nil (cs_int (we_int (os_mod (by omega) ?_)))))))))))))))))))))))))
      refine ⟨_, ⟨_, Int.emod_nonneg _ (by omega), ?_, rfl⟩, le_keep (le_keep (le_keep (le_keep (le_drop le_nil))))⟩
      exact Int.lt_trans (Int.emod_lt_of_pos _ (by omega)) (by decide)
    · subst hδ4
      have S4 := S3.weak le
      have fr : Z.Fr (fun _ => False) H H3 := S4.fr
      have key : WA K false (tCons (tIf (tOr (tTest (tOp rLtU (tVar 2) (tC (.int 0)))) (tTest (tOp rGeU (tVar 2) (tOp rPowU (tC (.int 10)) (tC (.int 17)))))) (tCB rAbsU (tCons (tVar 2) tNil)) (tC (.int 0))) (tCons (tVar 3) (tCons (tC (.int 0)) tNil)))
          [some (.dat (.fl ns)), some (.dat (.int (t : Int))), some (.dat (.int own)), some (.dat (.int stir)), none] fun as => ∃ x : Int, as = [.dat (.int x), .dat (.int stir), .dat (.int 0)] ∧ 0 ≤ x := by
        refine wa_cons (WE.imp (Φ := fun d => ∃ x : Int, d = .int x ∧ 0 ≤ x) ?_ fun d ⟨x, e, hx⟩ => ?_)
        · refine we_if (wt_or (wt_test (we_op (we_var rfl (we_int (os_lt_int ⟨_, rfl, fun e => ⟨fun _ => ?_, tf⟩, fun e => ?_⟩))))))
          · exact we_cb (wa_cons (we_var rfl (wa_nil (cs_abs ⟨_, rfl, by split <;> omega⟩))))
          · refine wt_test (we_op (we_var rfl (we_op (we_int (we_int (os_pow ⟨by decide, by decide, by decide⟩ (os_ge ⟨_, rfl, fun e => ?_, fun e => ?_⟩)))))))
            · exact we_cb (wa_cons (we_var rfl (wa_nil (cs_abs ⟨_, rfl, by split <;> omega⟩))))
            · exact we_int ⟨_, rfl, by omega⟩
        · subst e
          exact we_var rfl (wa_cons (we_int (wa_nil ⟨x, rfl, hx⟩))) |> fun z => wa_cons z
      refine key B M3 H3 σ3 S4 (fun vs H5 => vs.length ≤ sizeLine ∧ ∀ p, H5 p = none → Q (.ref p) (upd H5 p (.lst vs))) fun vs H5 as f5 r5 ⟨x, e, hx⟩ => ?_
      subst e
      have rl := datas_rep r5 rfl
      cases rl with
      | cons a1 rl => cases rl with
      | cons a2 rl => cases rl with
      | cons a3 rl =>
        cases rl
        cases a1
        cases a2
        cases a3
        refine ⟨by show 3 ≤ sizeLine; decide, fun p hp => k _ p (fun b o e => ?_) ?_ ⟨x, stir, 0, upd_same, hx, Int.le_refl _, s0, s1, Int.le_refl _⟩⟩
        · have h5 : H5 b = some o := f5.kp b o (fun f => f) (fr.kp b o (fun f => f) e)
          rw [upd_ne (fun z : b = p => by rw [z, hp] at h5; cases h5)]
          exact h5
        · cases e : H p with
          | none => rfl
          | some o =>
            have h5 : H5 p = some o := f5.kp p o (fun f => f) (fr.kp p o (fun f => f) e)
            rw [hp] at h5; cases h5
end
end T25

namespace T25
open PySem PySem.Spec PyProof.Rows L2 Z
section
variable {K : PySem.W.Frag} {b : Bool} {δ : Sl} {Φ : D → Prop} {E E' : XK} {ta : TA} {u : TS} {o : OC}
def unW (δ : Sl) : Sl := δ.map fun x => match x with
  | some .well => none
  | y => y
theorem unW_at {δ : Sl} {j : Nat} {av : AV} (h : (unW δ)[j]? = some (some av)) : δ[j]? = some (some av) ∧ av ≠ .well := by
  unfold unW at h
  rw [List.getElem?_map] at h
  obtain ⟨x, h1, h2⟩ := Option.map_eq_some_iff.mp h
  match x, h2 with
  | none, h2 => cases h2
  | some .well, h2 => cases h2
  | some (.dat d), h2 => cases h2; exact ⟨h1, nofun⟩
  | some (.own d), h2 => cases h2; exact ⟨h1, nofun⟩
  | some (.ownD d), h2 => cases h2; exact ⟨h1, nofun⟩
/-- a new well comes into a slot -/
theorem well_in {A : Z.Act} {M : AS} {H1 H2 : Hp} {σ : L2.St} {i : Nat} {p : Addr} (S1 : Sat K A M H1 σ δ) (noO : ∀ (j : Nat) (av : AV), δ[j]? = some (some av) → isOwn av = false) (k : ∀ a o, H1 a = some o → H2 a = some o) (hp : H1 p = none) (hw : WellAt H2 p) (hi : i < δ.length) :
    Sat K ⟨fun a => M a ∨ a = p, fun a => A.W a ∨ a = p, H2⟩ (fun a => M a ∨ a = p) H2 (σ.set i (some (.ref p))) (δ.set i (some .well)) := by
  have hpn : H2 p ≠ none := by
    obtain ⟨x, y, z, e, _⟩ := hw
    rw [e]; intro z; cases z
  have kn : ∀ a, M a ∨ a = p → H2 a ≠ none := fun a m => by
    rcases m with m | rfl
    · cases e : H1 a with
      | none => exact absurd e (S1.trk a m)
      | some o => rw [k a o e]; intro z; cases z
    · exact hpn
  have kw : ∀ a, A.W a ∨ a = p → WellAt H2 a := fun a m => by
    rcases m with m | rfl
    · obtain ⟨x, y, z, e, r⟩ := S1.wel a m
      exact ⟨x, y, z, k a _ e, r⟩
    · exact hw
  have mv : Mv M H1 (fun a => M a ∨ a = p) H2 := fun a n h => ⟨Kp.of fun o e => k a o e, fun m => m.elim n fun e => h (by rw [e]; exact hp)⟩
  refine ⟨fun j av e => ?_, fun j l av bv a hne ej el oj ol _ _ => ?_, by rw [List.length_set, List.length_set, S1.len], kn, fun a m => m, fun a w => w.elim (fun w => .inl (S1.m0 a (S1.w0 a w))) .inr, kn, kw, kw, Z.Fr.refl⟩
  · by_cases hj : j = i
    · subst hj
      rw [List.getElem?_set_self hi] at e
      cases e
      exact ⟨_, by rw [List.getElem?_set_self (by rw [S1.len]; exact hi)], p, rfl, .inr rfl⟩
    · rw [List.getElem?_set_ne (Ne.symm hj)] at e ⊢
      obtain ⟨v, h1, h2⟩ := S1.slot j av e
      refine ⟨v, h1, ?_⟩
      have := noO j av e
      cases av with
      | dat d => exact Rep.mv mv h2
      | well =>
        obtain ⟨a, ea, wa⟩ := h2
        exact ⟨a, ea, .inl wa⟩
      | own xs => cases this
      | ownD xs => cases this
  · by_cases hj : j = i
    · subst hj
      rw [List.getElem?_set_self hi] at ej
      cases ej
      cases oj
    · rw [List.getElem?_set_ne (Ne.symm hj)] at ej
      rw [noO j av ej] at oj
      cases oj
/-- back to where the well is not known -/
theorem well_out {A : Z.Act} {M M4 : AS} {H1 H2 H4 : Hp} {σ σ4 : L2.St} {δ4 : Sl} {p : Addr} (S1 : Sat K A M H1 σ δ) (k : ∀ a o, H1 a = some o → H2 a = some o) (hp : H1 p = none)
    (S4 : Sat K ⟨fun a => M a ∨ a = p, fun a => A.W a ∨ a = p, H2⟩ M4 H4 σ4 δ4) : Sat K A M4 H4 σ4 (unW δ4) := by
  have gp : ∀ a o, A.G a = some o → a ≠ p := fun a o e z => by
    subst z
    have := S1.fr.back S1.welG hp
    rw [e] at this; cases this
  refine ⟨fun j av e => ?_, fun j l av bv a hne ej el oj ol sj sl => S4.dis j l av bv a hne (unW_at ej).1 (unW_at el).1 oj ol sj sl, by rw [S4.len]; unfold unW; rw [List.length_map], S4.trk, fun a m => S4.m0 a (.inl (S1.m0 a m)), S1.w0, S1.g0, fun a w => S4.wel a (.inl w), S1.welG, ⟨fun a o n e => ?_, fun a w _ => S4.wel a (.inl w)⟩⟩
  · obtain ⟨h1, h2⟩ := unW_at e
    obtain ⟨v, h3, h4⟩ := S4.slot j av h1
    refine ⟨v, h3, ?_⟩
    have gn : ∀ a, H2 a = none → A.G a = none := fun a e => by
      refine S1.fr.back S1.welG ?_
      cases e2 : H1 a with
      | none => rfl
      | some o => rw [k a o e2] at e; cases e
    cases av with
    | dat d => exact h4
    | well => exact absurd rfl h2
    | own xs =>
      obtain ⟨a, vs, q1, q2, q3, q4, q5⟩ := h4
      exact ⟨a, vs, q1, q2, gn a q3, q4, q5⟩
    | ownD xs =>
      obtain ⟨a, vs, q1, q2, q3, q4, q5⟩ := h4
      exact ⟨a, vs, q1, q2, gn a q3, q4, q5⟩
  · have := S1.fr.kp a o n e
    exact S4.fr.kp a o (fun w => w.elim n (gp a o e)) (k a o this)
theorem well_ext {A : Z.Act} {M M4 : AS} {H H1 H2 H4 : Hp} {σ : L2.St} {p : Addr} (S1 : Sat K A M H1 σ δ) (e1 : Ext M H M H1) (k : ∀ a o, H1 a = some o → H2 a = some o) (hp : H1 p = none) (e4 : Ext (fun a => M a ∨ a = p) H2 M4 H4) : Ext M H M4 H4 := by
  have nMp : ¬ M p := fun m => S1.trk p m hp
  have hHp : H p = none := by
    cases e : H p with
    | none => rfl
    | some o => rw [e1.1 p o nMp e] at hp; cases hp
  refine ⟨fun a o n e => ?_, fun a m => ?_⟩
  · have h1 := e1.1 a o n e
    refine e4.1 a o (fun m => m.elim n fun z => ?_) (k a o h1)
    rw [z, hHp] at e; cases e
  · rcases e4.2 a m with (q | q) | q
    · exact .inl q
    · exact .inr (by rw [q]; exact hHp)
    · by_cases m2 : M a
      · exact .inl m2
      · right
        cases e : H a with
        | none => rfl
        | some o => rw [k a o (e1.1 a o m2 e)] at q; cases q
theorem well_args {ns : List Int} {t : Nat} {A : Z.Act} {M : AS} {H : Hp} {vs : List V} {bb : Bool} (r : RepAs K (Y A M bb) A.W H vs [.dat (.fl ns), .dat (.int (t : Int))]) : ∃ a, vs = [.ref a, .int (t : Int)] ∧ SqL K H a (ns.map V.int) := by
  have rl := datas_rep r rfl
  cases rl with
  | cons r1 rl => cases rl with
  | cons r2 rl =>
    cases rl
    cases r2
    cases r1 with
    | fl h => exact ⟨_, rfl, h.sql⟩
/-- name = _law_well(script, turn) -/
theorem ws_well {i : Nat} {ns : List Int} {t : Nat} (noO : ∀ (j : Nat) (av : AV), δ[j]? = some (some av) → isOwn av = false) (hi : i < δ.length) (hns : ns.length ≤ 63) (ht : t ≤ 63) (ha : WA K false ta δ fun as => as = [.dat (.fl ns), .dat (.int (t : Int))])
    (h : WS K u (δ.set i (some .well)) { nx := fun δ' => o.nx (unW δ'), rt := o.rt, bk := fun δ' => o.bk (unW δ'), ct := fun δ' => o.ct (unW δ') }) : WS K (tSeq (tAsg (tCall (spWell K) [] E ta) (gName i)) u) δ o := fun A M H σ S De n b c r =>
  ha A M H σ S _ fun vs H1 as f1 ra e => by
    subst e
    obtain ⟨a, rfl, hq⟩ := well_args ra
    rw [List.append_nil]
    refine ⟨a, ns, t, rfl, hq, hns, ht, fun H2 p k hp hw => ?_⟩
    have S1 := S.step f1
    have S3 := well_in (i := i) S1 noO k hp hw hi
    have E1 := S.ext f1
    exact h _ _ H2 _ S3 De (fun M4 H4 σ4 δ4 e4 S4 p4 => n M4 H4 σ4 _ (well_ext S1 E1 k hp e4) (well_out S1 k hp S4) p4) (fun M4 H4 σ4 δ4 e4 S4 p4 => b M4 H4 σ4 _ (well_ext S1 E1 k hp e4) (well_out S1 k hp S4) p4) (fun M4 H4 σ4 δ4 e4 S4 p4 => c M4 H4 σ4 _ (well_ext S1 E1 k hp e4) (well_out S1 k hp S4) p4)
      fun M4 H4 σ4 δ4 v d S4 rd p4 => r M4 H4 σ4 _ v d (well_out S1 k hp S4) (rd.sub fun a m => .inl (S1.m0 a m)) p4
/-- f(_law_well(script, turn)) -/
theorem we_callW {S0 : List AV → (D → Prop) → Prop} {ns : List Int} {t : Nat} (hns : ns.length ≤ 63) (ht : t ≤ 63) (ha : WA K b ta δ fun as => as = [.dat (.fl ns), .dat (.int (t : Int))]) (h : S0 [.well] Φ) :
    Z.WE K b (tCall (spA K S0) [] E (tCons (tCall (spWell K) [] E' ta) tNil)) δ Φ := fun A M H σ S Q q =>
  ha A M H σ S _ fun vs H1 as f1 ra e => by
    subst e
    obtain ⟨a, rfl, hq⟩ := well_args ra
    rw [List.append_nil]
    refine ⟨a, ns, t, rfl, hq, hns, ht, fun H2 p k hp hw => ?_⟩
    have S1 := S.step f1
    have st := S1.st0 (b := b)
    have hpn : H2 p ≠ none := by
      obtain ⟨x, y, z, e, _⟩ := hw
      rw [e]; intro z; cases z
    have nMp : ¬ Y A M b p := fun m => st.2.1 p m hp
    refine ⟨[.well], fun a => Y A M b a ∨ a = p, fun a => A.W a ∨ a = p, Φ, ⟨fun a w => w.elim (fun w => .inl (st.1 a w)) .inr, fun a m => ?_, fun a w => ?_⟩, ?_, h, fun v H' d f r p4 => q v H' d ?_ (r.sub fun a m => .inl m) p4⟩
    · rcases m with m | rfl
      · cases e : H1 a with
        | none => exact absurd e (st.2.1 a m)
        | some o => rw [k a o e]; intro z; cases z
      · exact hpn
    · rcases w with w | rfl
      · obtain ⟨x, y, z, e, r⟩ := st.2.2 a w
        exact ⟨x, y, z, k a _ e, r⟩
      · exact hw
    · exact .well (.inr rfl) .nil
    · refine f1.trans ⟨fun a o n e => f.kp a o (fun w => w.elim n fun z => ?_) (k a o e), fun a w q => f.wl a (.inl w) ?_⟩
      · rw [z, hp] at e; cases e
      · obtain ⟨x, y, z, e, r⟩ := q
        exact ⟨x, y, z, k a _ e, r⟩
end
end T25

namespace T25
open PySem PySem.Spec PyProof.Rows L2 Z
/-! the emptied place -/
def isMv : Ev → Bool
  | .move .. => true
  | _ => false
theorem kind_move (e : Ev) : decide (e.kind = "move") = isMv e := by
  cases e
  · show decide (("pour" : Str) = "move") = false; decide +kernel
  · show decide (("move" : Str) = "move") = true; decide +kernel
  · show decide (("away" : Str) = "move") = false; decide +kernel
  · show decide (("sample" : Str) = "move") = false; decide +kernel
  · show decide (("look" : Str) = "move") = false; decide +kernel
  · show decide (("doubt" : Str) = "move") = false; decide +kernel
section
variable {o p : Str} (ne : p ≠ o) (c : Int) (g : Ev)
def esE (o p : Str) (c : Int) (g : Ev) : List Ev := [.pour 0 o c 0 c, g, .pour 2 o 3 0 1, .move 2 o p 1]
theorem hE1 (z : Str) : hAt (esE o p c g) 1 z = if z = o then c else 0 := by
  unfold hAt esE step up; simp [up]
def Gone (o p : Str) (c : Int) (g : Ev) : Prop := g = .away 1 o c ∨ g = .move 1 o p c ∨ g = .sample 1 o c 0 c
theorem hE3 (hg : Gone o p c g) (ne : p ≠ o) : hAt (esE o p c g) 3 o = 3 := by
  rcases hg with rfl | rfl | rfl <;> simp [hAt, esE, step, up, ne, ne.symm] <;> omega
theorem esE_ok {ns : List Str} (ho : o ∈ ns) (hp : p ∈ ns) (ne : p ≠ o) (c1 : 1 ≤ c) (c9 : c ≤ 999) (hg : Gone o p c g) : OkEs ns (esE o p c g) := by
  refine ⟨by show 4 ≤ 40; decide, fun k e hk => ?_⟩
  match k, hk with
  | 0, hk => cases hk; exact ⟨Int.le_refl _, Int.le_refl _, by show (0 : Int) ≤ 999; decide, ho, c1, c9, Int.le_refl _, by omega, Int.le_refl _⟩
  | 1, hk =>
    obtain rfl : g = e := by cases hk; rfl
    have h1 : hAt (esE o p c g) 1 o = c := by rw [hE1]; simp
    rcases hg with e | e | e
    · rw [e] at h1 ⊢; exact ⟨by show (0 : Int) ≤ 1; decide, by show (0 : Int) ≤ 1; decide, by show (1 : Int) ≤ 999; decide, ho, c1, by rw [h1]; exact Int.le_refl _⟩
    · rw [e] at h1 ⊢; exact ⟨by show (0 : Int) ≤ 1; decide, by show (0 : Int) ≤ 1; decide, by show (1 : Int) ≤ 999; decide, ho, hp, ne, c1, by rw [h1]; exact Int.le_refl _⟩
    · rw [e] at h1 ⊢; exact ⟨by show (0 : Int) ≤ 1; decide, by show (0 : Int) ≤ 1; decide, by show (1 : Int) ≤ 999; decide, ho, c1, by rw [h1]; exact Int.le_refl _, Int.le_refl _, by omega, Int.le_refl _⟩
  | 2, hk =>
    cases hk
    refine ⟨?_, by show (0 : Int) ≤ 2; decide, by show (2 : Int) ≤ 999; decide, ho, by decide, by decide, by decide, by decide, by decide⟩
    have : g.day = 1 := by rcases hg with rfl | rfl | rfl <;> rfl
    show g.day ≤ 2
    omega
  | 3, hk =>
    cases hk
    refine ⟨by show (2 : Int) ≤ 2; decide, by show (0 : Int) ≤ 2; decide, by show (2 : Int) ≤ 999; decide, ho, hp, ne, by decide, ?_⟩
    rw [hE3 c g hg ne]; decide
  | k + 4, hk => cases hk
theorem wE1 (hg : Gone o p c g) (ne : p ≠ o) : waysN (esE o p c g) 0 1 = if isMv g = true then [(p, [0, 1])] else [] := by
  have h1 : hAt (esE o p c g) 1 o = c := by rw [hE1]; simp
  show wStep (hAt (esE o p c g) 1) g 1 [(o, [0])] = _
  rcases hg with rfl | rfl | rfl
  · simp [wStep, isLeft, h1, isMv]
  · simp [wStep, isLeft, h1, wGet, isMv]
  · simp [wStep, isLeft, h1, isMv]
theorem wE3 (hg : Gone o p c g) (ne : p ≠ o) : waysN (esE o p c g) 0 3 = if isMv g = true then [(p, [0, 1])] else [] := by
  have h2 : waysN (esE o p c g) 0 2 = if isMv g = true then [(p, [0, 1])] else [] := by
    show wStep (hAt (esE o p c g) 2) (.pour 2 o 3 0 1) 2 (waysN (esE o p c g) 0 1) = _
    rw [wE1 c g hg ne]
    split <;> simp [wStep, isLeft]
  show wStep (hAt (esE o p c g) 3) (.move 2 o p 1) 3 (waysN (esE o p c g) 0 2) = _
  rw [h2]
  split
  · simp [wStep, isLeft, wGet, ne, ne.symm]
  · simp [wStep, isLeft, wGet]
theorem wE23 (hg : Gone o p c g) (ne : p ≠ o) : waysN (esE o p c g) 2 1 = [(o, [2]), (p, [2, 3])] := by
  show wStep (hAt (esE o p c g) 3) (.move 2 o p 1) 3 [(o, [2])] = _
  have h3 := hE3 c g hg ne
  simp [wStep, isLeft, wGet, h3, ne, ne.symm]
end
end T25

namespace T25
open PySem PySem.Spec PyProof.Rows L2 Z
/-! the chain -/
theorem nd_get {ns : List Str} (nd : ns.Nodup) {i j : Nat} {a b : Str} (h1 : ns[i]? = some a) (h2 : ns[j]? = some b) (ne : i ≠ j) : a ≠ b := fun e => by
  obtain ⟨l1, e1⟩ := List.getElem?_eq_some_iff.mp h1
  obtain ⟨l2, e2⟩ := List.getElem?_eq_some_iff.mp h2
  rcases Nat.lt_or_gt_of_ne ne with c | c
  · exact List.pairwise_iff_getElem.mp nd i j l1 l2 c (by rw [e1, e2, e])
  · exact List.pairwise_iff_getElem.mp nd j i l2 l1 c (by rw [e1, e2, e])
def evA (b : Bool) (x y : Ev) : Ev := if b = true then x else y
section
variable {P : Program} {w : World} {K : PySem.W.Frag} {mg : Str → Option Value} {base : Heap} {A : Adr}
def S_law_chain : List AV → (D → Prop) → Prop := fun as Φ => as = [.well] ∧ Φ (.bl true)
theorem ok_law_chain (T : Txt K mg A w) : FnOk P w K mg base CX0 10 A.f_law_chain A.d_law_chain ["well"] (spA K S_law_chain) := by
  have G_law_asked := ok_law_asked (P := P) (w := w) (base := base) T
  have G_law_places := ok_law_places (P := P) (w := w) (base := base) T
  have G_law_take := ok_law_take (P := P) (w := w) (base := base) T
  refine T.F_law_chain.ok sc_law_chain (fun vs H Q E h => spA_len h fun as Φ h => ?len) (fun cdv Ar outer s H vs Q E hr h => ?body)
  case body =>
    have hr_law_asked := hr.mono (k := _) (j := _) (by decide : 9 ≤ 9)
    have hr_law_places := hr.mono (k := _) (j := _) (by decide : 4 ≤ 9)
    have hr_law_take := hr.mono (k := _) (j := _) (by decide : 1 ≤ 9)
    refine ⟨_, (pss_cons (ps_par (i := 1) (j := 2) rfl sc_law_chain.nd rfl rfl (by decide) rfl rfl (pa_cons (pe_call G_law_places hr_law_places rfl T.m_law_places T.F_law_places.kp T.b_law_places .nil pass0 (pa_cons (pv 0) (pa_cons pe_int (pa_cons pe_int pa_nil)))) (pa_cons (pe_op (show OpR _ _ (rAddU K) from op_addU) pe_int (pe_call G_law_take hr_law_take rfl T.m_law_take T.F_law_take.kp T.b_law_take .nil pass0 (pa_cons (pv 0) (pa_cons pe_int pa_nil)))) pa_nil)) rfl)
      (pss_cons (ps_setLc (i := 3) (own := [("place", 12)]) rfl sc_law_chain.nd rfl rfl (sw_true rfl rfl rfl (by decide +kernel)) (pi_tup (pv 1)) (blkOk_by (N := ["well", "places", "count", "names", "turned", "events", "left", "first", "whole", "turn", "here", "there", "place"]) (sc := defScope s_law_chain) (by decide +kernel)) (fun _ _ _ _ _ => (pg_name (i := 12) sc_law_chain.nd rfl (by first | exact Or.inl rfl | exact Or.inr rfl))) (fun _ _ _ _ _ => pts_nil) (fun _ _ _ _ _ => (pe_ix (show IxR _ (rIx K) from ix_seq) (pv 12) pe_int (fun _ _ => rfl))))
      (pss_cons (ps_par3 (i := 4) (j := 5) (l := 6) rfl sc_law_chain.nd rfl rfl rfl (by decide) (by decide) (by decide) rfl rfl rfl (pa_cons (pe_call G_law_take hr_law_take rfl T.m_law_take T.F_law_take.kp T.b_law_take .nil pass0 (pa_cons (pv 0) (pa_cons pe_int pa_nil))) (pa_cons (pe_lst pa_nil) (pa_cons (pv 2) pa_nil))) rfl)
      (pss_cons (ps_par (i := 7) (j := 8) rfl sc_law_chain.nd rfl rfl (by decide) rfl rfl (pa_cons (pe_ix (show IxR _ (rIx K) from ix_seq) (pv 3) (pv 4) (fun _ _ => rfl)) (pa_cons (pe_cmpR (show OpR _ _ (rEqU K) from op_eqU hr) (pe_call G_law_take hr_law_take rfl T.m_law_take T.F_law_take.kp T.b_law_take .nil pass0 (pa_cons (pv 0) (pa_cons pe_int pa_nil))) pe_int (nomark _)) pa_nil)) rfl)
      (pss_cons (ps_expr (pe_bm PySem.F.plainAttrs_list PySem.F.slot_list_append PySem.F.type_list_append mt_append (pv 5) (pa_cons (pe_tup (pa_cons pe_str (pa_cons pe_int (pa_cons (pv 7) (pa_cons (pv 2) (pa_cons pe_int (pa_cons pe_int pa_nil))))))) pa_nil)))
      (pss_cons (ps_for PassesOwn.never rfl (pi_range1 (by rfl) T.z_range (pa_cons pe_int pa_nil)) (pg_name (i := 9) sc_law_chain.nd rfl (by first | exact Or.inl rfl | exact Or.inr rfl)) (pss_cons (ps_par (i := 10) (j := 11) rfl sc_law_chain.nd rfl rfl (by decide) rfl rfl (pa_cons (pe_ix (show IxR _ (rIx K) from ix_seq) (pv 3) (pe_op op_mod (pe_callTy call_int1 (by rfl) T.z_int PyProof.Rows.boot_int (pa_cons (pe_op (show OpR _ _ (rAddU K) from op_addU) (pv 4) (pv 9)) pa_nil)) pe_int) (fun _ _ => rfl)) (pa_cons (pe_ix (show IxR _ (rIx K) from ix_seq) (pv 3) (pe_op op_mod (pe_callTy call_int1 (by rfl) T.z_int PyProof.Rows.boot_int (pa_cons (pe_op (show OpR _ _ (rAddU K) from op_addU) (pe_op (show OpR _ _ (rAddU K) from op_addU) (pv 4) (pv 9)) pe_int) pa_nil)) pe_int) (fun _ _ => rfl)) pa_nil)) rfl)
      (pss_one (ps_if (PW.pt (pw_or (PW.pt (pw_and (pt_cmpR op_gt (pv 9) pe_int (nomark _)) (pw_and1 (pt_not (pt_val (pv 8)))))) (pw_or1 (PW.pt (pw_and (pt_not (pt_val (pv 8))) (pw_and1 (pt_cmpR op_ltU (pv 6) pe_int (nomark _)))))))) (pss_one (ps_expr (pe_bm PySem.F.plainAttrs_list PySem.F.slot_list_append PySem.F.type_list_append mt_append (pv 5) (pa_cons (pe_tup (pa_cons pe_str (pa_cons pe_int (pa_cons (pv 10) (pa_cons pe_int (pa_cons pe_int pa_nil)))))) pa_nil)))) (pss_cons (ps_set (i := 6) sc_law_chain.nd rfl (by first | exact Or.inl rfl | exact Or.inr rfl) (pe_ifExp (pt_val (pv 8)) (pv 6) (pe_op op_sub (pv 6) pe_int)))
      (pss_one (ps_expr (pe_bm PySem.F.plainAttrs_list PySem.F.slot_list_append PySem.F.type_list_append mt_append (pv 5) (pa_cons (pe_tup (pa_cons pe_str (pa_cons pe_int (pa_cons (pv 10) (pa_cons (pv 11) (pa_cons (pv 6) pa_nil)))))) pa_nil)))))))))
      (pss_one (ps_ret (pe_call G_law_asked hr_law_asked rfl T.m_law_asked T.F_law_asked.kp T.b_law_asked .nil pass0 (pa_cons (pv 0) (pa_cons (pv 1) (pa_cons (pe_callTy (show CallR _ _ (rTupleU K) from call_tupleU) (by rfl) T.z_tuple PyProof.Rows.boot_tuple (pa_cons (pv 5) pa_nil)) (pa_cons pe_int pa_nil))))))))))))), fn_body (fun as Φ hs => ?_) vs H Q E h⟩
    obtain ⟨rfl, h⟩ := hs
    refine ws_seq (ws_par (wp_dat ?_))
    refine we_call ?_
    refine wa_well rfl ?_
    refine wa_cons ?_
    refine we_int ?_
    refine wa_cons ?_
    refine we_int ?_
    refine wa_nil ?_
    refine ⟨12, 3, rfl, by decide, by decide, by decide, fun ps op hpl => wp_dat ?_⟩
    refine we_op ?_
    refine we_int ?_
    refine we_call ?_
    refine wa_well rfl ?_
    refine wa_cons ?_
    refine we_int ?_
    refine wa_nil ?_
    refine ⟨900, rfl, by omega, by omega, fun t t0 t1 => os_add_int (wp_nil ⟨_, _, rfl, ?_⟩)⟩
    refine ws_seq (ws_asg (we_lcX (wr_name 12) (mono_name 12) (by simp) (wi_tup (we_var rfl ⟨_, rfl, Str × Str, ps, pD, fun q => some (.str q.1), rfl, by omega, fun q hq => ?_, ?_⟩))))
    · refine wg_name (wt_true ⟨fun _ => ?_, nofun⟩)
      refine we_op ?_
      refine we_var rfl ?_
      refine we_int ?_
      refine os_ix_tup rfl ?_
      rfl
    rw [fm_map, show ps.map (fun q => D.str q.1) = (ps.map (·.1)).map D.str by rw [List.map_map]; rfl]
    have nd := op.nd
    have nl : (ps.map (·.1)).length = 12 := by rw [List.length_map]; exact hpl
    generalize hns : ps.map (·.1) = ns at *
    refine ws_seq (ws_par3 (wp_dat ?_))
    refine we_call ?_
    refine wa_well rfl ?_
    refine wa_cons ?_
    refine we_int ?_
    refine wa_nil ?_
    refine ⟨12, rfl, by omega, by omega, fun ai a0 a1 => ?_⟩
    obtain ⟨a, rfl⟩ : ∃ a : Nat, ai = (a : Int) := ⟨ai.toNat, by omega⟩
    refine wp_newL (wp_dat (we_var rfl (wp_nil ⟨_, _, _, rfl, ?_⟩)))
    have ha : ns[a]? = some ns[a] := List.getElem?_eq_getElem (by omega)
    have la : L2.atI (ns.map D.str) (a : Int) = some (.str ns[a]) := Z.atI_nat (by rw [List.getElem?_map, ha]; rfl)
    refine ws_seq (ws_par (wp_dat ?_))
    refine we_op ?_
    refine we_var rfl ?_
    refine we_var rfl ?_
    refine os_ix_lst la ?_
    refine wp_dat ?_
    refine we_op ?_
    refine we_call ?_
    refine wa_well rfl ?_
    refine wa_cons ?_
    refine we_int ?_
    refine wa_nil ?_
    refine ⟨2, rfl, by omega, by omega, fun wv w0 w1 => we_int (os_eq_int (wp_nil ⟨_, _, rfl, ?_⟩))⟩
    generalize hwh : decide (wv = 0) = whole
    clear hwh w0 w1
    refine ws_seq (ws_app rfl (by show 0 < 100000; decide) ?_)
    refine we_tup ?_
    refine wa_cons ?_
    refine we_str ?_
    refine wa_cons ?_
    refine we_int ?_
    refine wa_cons ?_
    refine we_var rfl ?_
    refine wa_cons ?_
    refine we_var rfl ?_
    refine wa_cons ?_
    refine we_int ?_
    refine wa_cons ?_
    refine we_int ?_
    refine wa_nil ?_
    refine ⟨by show 6 ≤ 100000; decide, _, rfl, ?_⟩
    have at_ : ∀ j : Nat, ∃ z, ns[(a + j) % 12]? = some z := fun j => ⟨_, List.getElem?_eq_getElem (by omega)⟩
    refine ws_forU (fun j δ' => j ≤ 39 ∧ ∃ (es : List Ev) (l : Int), es.length = j + 1 ∧ OkEs ns es ∧ lastDay es ≤ 1 ∧ (∀ z ∈ ns, 0 ≤ hAt es es.length z) ∧ (whole = true → l = 14 + t) ∧ (whole = false → l = 14 + t - ((min j 12 : Nat) : Int)) ∧
        ((whole = true ∨ j ≤ 12) → ∀ z, ns[(a + j) % 12]? = some z → l ≤ hAt es es.length z) ∧
        δ' = [some .well, some (.dat (.tup (ps.map pD))), some (.dat (.int (14 + t))), some (.dat (.lst (ns.map D.str))), some (.dat (.int (a : Int))), some (.own (es.map evD)), some (.dat (.int l)), none, some (.dat (.bl whole)), none, none, none, none])
      ⟨_, ⟨Nat.zero_le _, [.pour 0 ns[a] (14 + t) 0 1], 14 + t, rfl, ?_, (by show (0 : Int) ≤ 1; decide), ?_, fun _ => rfl, fun _ => by simp, ?_, rfl⟩, by walk_at "zt"⟩
      (wi_rng1 (wa_cons (we_int (wa_nil ⟨39, rfl, by omega, fun j d δ0 hi hP => ?_, fun δ0 hP => ?_⟩))))
    · refine ⟨by show 1 ≤ 40; decide, fun k e hk => ?_⟩
      match k, hk with
      | 0, hk => cases hk; exact ⟨Int.le_refl _, Int.le_refl _, by show (0 : Int) ≤ 999; decide, List.getElem_mem _, by omega, by omega, Int.le_refl _, by decide, by omega⟩
      | k + 1, hk => cases hk
    · intro z _
      show 0 ≤ up (fun _ => 0) ns[a] (14 + t) z
      unfold up
      split
      · show 0 ≤ (0 : Int) + (14 + t); omega
      · exact Int.le_refl _
    · intro _ z hz
      rw [show (a + 0) % 12 = a by omega, ha] at hz
      cases hz
      show 14 + t ≤ up (fun _ => 0) ns[a] (14 + t) ns[a]
      unfold up
      rw [if_pos rfl]
      show 14 + t ≤ (0 : Int) + (14 + t); omega
    · obtain ⟨hj39, es, l, hel, oe, ld, nn, lw, lnw, lh, rfl⟩ := hP
      obtain ⟨hj, rfl⟩ := rng_at hi
      have hj : j < 39 := by omega
      obtain ⟨u, hu⟩ := at_ j
      obtain ⟨v, hv⟩ := at_ (j + 1)
      have hum := List.mem_of_getElem? hu
      have hvm := List.mem_of_getElem? hv
      have uv : v ≠ u := nd_get nd hv hu (by omega)
      have lu : L2.atI (ns.map D.str) (((a : Int) + (0 + (j : Int))) % 12) = some (.str u) := by
        rw [show ((a : Int) + (0 + (j : Int))) % 12 = (((a + j) % 12 : Nat) : Int) by omega]
        exact Z.atI_nat (by rw [List.getElem?_map, hu]; rfl)
      have lv : L2.atI (ns.map D.str) (((a : Int) + (0 + (j : Int)) + 1) % 12) = some (.str v) := by
        rw [show ((a : Int) + (0 + (j : Int)) + 1) % 12 = (((a + (j + 1)) % 12 : Nat) : Int) by omega]
        exact Z.atI_nat (by rw [List.getElem?_map, hv]; rfl)
      refine wg_name (ws_seq (ws_par (wp_dat ?_)))
      refine we_op ?_
      refine we_var rfl ?_
      refine we_op ?_
      refine we_cb ?_
      refine wa_cons ?_
      refine we_op ?_
      refine we_var rfl ?_
      refine we_var rfl ?_
      refine os_add_int ?_
      refine wa_nil ?_
      refine cs_int ?_
      refine we_int ?_
      refine os_mod (by decide) ?_
      refine os_ix_lst lu ?_
      refine wp_dat ?_
      refine we_op ?_
      refine we_var rfl ?_
      refine we_op ?_
      refine we_cb ?_
      refine wa_cons ?_
      refine we_op ?_
      refine we_op ?_
      refine we_var rfl ?_
      refine we_var rfl ?_
      refine os_add_int ?_
      refine we_int ?_
      refine os_add_int ?_
      refine wa_nil ?_
      refine cs_int ?_
      refine we_int ?_
      refine os_mod (by decide) ?_
      refine os_ix_lst lv ?_
      refine wp_nil ⟨_, _, rfl, ?_⟩
      have few : es.length < 40 := by omega
      have look : ∀ {Ψ : Prop}, (∀ es', es' = es ++ [.look 1 u 0 0] → OkEs ns es' → lastDay es' ≤ 1 → hAt es' es'.length = hAt es es.length → Ψ) → Ψ := fun k => by
        refine k _ rfl (oe.snoc few ⟨ld, by show (0 : Int) ≤ 1; decide, by show (1 : Int) ≤ 999; decide, hum, Int.le_refl _, Int.le_refl _, nn u hum⟩) (by rw [lastDay_snoc]; exact Int.le_refl _) ?_
        rw [List.length_append]
        exact hAt_snoc es _
      have move : ∀ {Ψ : Prop} (m : Int), 1 ≤ m → m ≤ hAt es es.length u → (∀ es', es' = es ++ [.move 1 u v m] → OkEs ns es' → lastDay es' ≤ 1 → hAt es' es'.length = up (up (hAt es es.length) u (-m)) v m → Ψ) → Ψ := fun m m1 m2 k => by
        refine k _ rfl (oe.snoc few ⟨ld, by show (0 : Int) ≤ 1; decide, by show (1 : Int) ≤ 999; decide, hum, hvm, uv, m1, m2⟩) (by rw [lastDay_snoc]; exact Int.le_refl _) ?_
        rw [List.length_append]
        exact hAt_snoc es _
      have moved : ∀ m : Int, 1 ≤ m → m ≤ hAt es es.length u → (∀ z ∈ ns, 0 ≤ up (up (hAt es es.length) u (-m)) v m z) ∧ m ≤ up (up (hAt es es.length) u (-m)) v m v := fun m m1 m2 => by
        constructor
        · intro z hz
          have := nn z hz
          unfold up
          split
          · split <;> omega
          · split
            · rename_i e; subst e; omega
            · omega
        · have := nn v hvm
          unfold up
          rw [if_pos rfl, if_neg uv]; omega
      refine ws_if (WT.imp (Φ := fun c => c = (!whole && decide (11 < j))) ?t fun c hc => ⟨fun e => ?look, fun e => ?mv⟩)
      case t =>
        refine wt_or (wt_and (wt_test ?_))
        refine we_op ?_
        refine we_var rfl ?_
        refine we_int ?_
        refine os_gt ?_
        refine ⟨_, rfl, fun e1 => wt_not (wt_B (we_var rfl ⟨_, rfl, ?_⟩)), fun e1 => ⟨nofun, fun _ => ?_⟩⟩
        · have hj11 : 11 < j := by have := of_decide_eq_true e1; omega
          cases whole with
          | false => exact ⟨fun _ => by simp [hj11], nofun⟩
          | true => exact ⟨nofun, fun _ => wt_and (wt_not (wt_B (we_var rfl ⟨_, rfl, nofun, fun _ => by simp⟩)))⟩
        · have hj11 : ¬ 11 < j := by have := of_decide_eq_false e1; omega
          refine wt_and (wt_not (wt_B (we_var rfl ⟨_, rfl, ?_⟩)))
          cases whole with
          | false =>
            refine ⟨fun _ => wt_test ?_, nofun⟩
            have hl := lnw rfl
            refine we_op ?_
            refine we_var rfl ?_
            refine we_int ?_
            refine os_lt_int ?_
            refine ⟨_, rfl, ?_⟩
            rw [decide_eq_false (by omega)]
            simp [hj11]
          | true => exact ⟨nofun, fun _ => by simp⟩
      case look =>
        rw [hc] at e
        have hw : whole = false ∧ 11 < j := by simpa using e
        obtain ⟨rfl, hj11⟩ := hw
        have hl := lnw rfl
        refine ws_app rfl (by rw [List.length_map]; omega) ?_
        refine we_tup ?_
        refine wa_cons ?_
        refine we_str ?_
        refine wa_cons ?_
        refine we_int ?_
        refine wa_cons ?_
        refine we_var rfl ?_
        refine wa_cons ?_
        refine we_int ?_
        refine wa_cons ?_
        refine we_int ?_
        refine wa_nil ?_
        refine ⟨by show 5 ≤ 100000; decide, _, rfl, ?_⟩
        refine look fun es' ee o' d' h' => ?_
        refine ⟨_, ⟨by omega, es', l, by rw [ee, List.length_append, hel]; rfl, o', d', by rw [h']; exact nn, nofun, fun _ => by omega, fun q => by rcases q with q | q; cases q; omega, rfl⟩, ?_⟩
        rw [ee, List.map_append]
        walk_at "zt"
      case mv =>
        rw [hc] at e
        have hw : whole = true ∨ j ≤ 11 := by
          cases whole with
          | true => exact .inl rfl
          | false => exact .inr (by simpa using e)
        refine ws_seq (ws_asg (WE.imp (Φ := fun d => d = .int (if whole = true then l else l - 1)) ?_ fun d hd => ?_))
        · refine we_if (wt_B (we_var rfl ⟨_, rfl, fun e => we_var rfl ?_, fun e => ?_⟩))
          · rw [if_pos e]
          · refine we_op ?_
            refine we_var rfl ?_
            refine we_int ?_
            refine os_sub ?_
            rw [if_neg (by rw [e]; exact Bool.false_ne_true)]
        subst hd
        have hlu := lh (hw.imp id fun q => by omega) u hu
        generalize hm : (if whole = true then l else l - 1) = m
        have mm : 1 ≤ m ∧ m ≤ l := by
          rw [← hm]
          cases whole with
          | true => have := lw rfl; simp; omega
          | false => have := lnw rfl; have := hw.resolve_left nofun; simp; omega
        refine ws_app rfl (by rw [List.length_map]; omega) ?_
        refine we_tup ?_
        refine wa_cons ?_
        refine we_str ?_
        refine wa_cons ?_
        refine we_int ?_
        refine wa_cons ?_
        refine we_var rfl ?_
        refine wa_cons ?_
        refine we_var rfl ?_
        refine wa_cons ?_
        refine we_var rfl ?_
        refine wa_nil ?_
        refine ⟨by show 5 ≤ 100000; decide, _, rfl, ?_⟩
        refine move m mm.1 (by omega) fun es' ee o' d' h' => ?_
        obtain ⟨n1, n2⟩ := moved m mm.1 (by omega)
        refine ⟨_, ⟨by omega, es', m, by rw [ee, List.length_append, hel]; rfl, o', d', by rw [h']; exact n1, fun q => ?_, fun q => ?_, fun _ z hz => ?_, rfl⟩, ?_⟩
        · rw [← hm, if_pos q]; exact lw q
        · rw [← hm, if_neg (by rw [q]; exact Bool.false_ne_true)]
          have := lnw q
          have := hw.resolve_left (by rw [q]; exact Bool.false_ne_true)
          omega
        · rw [hv] at hz
          cases hz
          rw [h']; exact n2
        · rw [ee, List.map_append]
          walk_at "zt"
    · obtain ⟨hj39, es, l, hel, oe, ld, nn, lw, lnw, lh, rfl⟩ := hP
      refine ws_freeze 5 rfl (ws_ret ?_)
      refine we_call ?_
      refine wa_well rfl ?_
      refine wa_cons ?_
      refine we_var rfl ?_
      refine wa_cons ?_
      refine we_cb ?_
      refine wa_cons ?_
      refine we_var rfl ?_
      refine wa_nil ?_
      refine cs_tuple_lst ?_
      refine wa_cons ?_
      refine we_int ?_
      refine wa_nil ?_
      exact ⟨ps, es, 5, rfl, op, by rw [hns]; exact oe, by decide, h⟩
  case len => obtain ⟨rfl, _⟩ := h; rfl
end
end T25

namespace T25
open PySem PySem.Spec PyProof.Rows L2 Z
section
variable {P : Program} {w : World} {K : PySem.W.Frag} {mg : Str → Option Value} {base : Heap} {A : Adr}
def S_law_emptied : List AV → (D → Prop) → Prop := fun as Φ => as = [.well] ∧ Φ (.bl true)
theorem ok_law_emptied (T : Txt K mg A w) : FnOk P w K mg base CX0 9 A.f_law_emptied A.d_law_emptied ["well"] (spA K S_law_emptied) := by
  have G_law_pick := ok_law_pick (P := P) (w := w) (base := base) T
  have G_law_places := ok_law_places (P := P) (w := w) (base := base) T
  have G_law_same := ok_law_same (P := P) (w := w) (base := base) T 4
  have G_law_take := ok_law_take (P := P) (w := w) (base := base) T
  have G_is_linked := ok_is_linked (P := P) (w := w) (base := base) T
  have G_way := ok_way (P := P) (w := w) (base := base) T
  have G_Hall_init := ok_Hall_init (P := P) (w := w) (base := base) T
  refine T.F_law_emptied.ok sc_law_emptied (fun vs H Q E h => spA_len h fun as Φ h => ?len) (fun cdv Ar outer s H vs Q E hr h => ?body)
  case body =>
    have hrm_Hall := hr.mono (k := _) (j := _) (by decide : 8 ≤ 8)
    have hr_law_pick := hr.mono (k := _) (j := _) (by decide : 2 ≤ 8)
    have hr_law_places := hr.mono (k := _) (j := _) (by decide : 4 ≤ 8)
    have hr_law_same := hr.mono (k := _) (j := _) (by decide : 4 ≤ 8)
    have hr_law_take := hr.mono (k := _) (j := _) (by decide : 1 ≤ 8)
    have hr_is_linked := hr.mono (k := _) (j := _) (by decide : 6 ≤ 8)
    have hr_way := hr.mono (k := _) (j := _) (by decide : 6 ≤ 8)
    refine ⟨_, (pss_cons (ps_par (i := 1) (j := 2) rfl sc_law_emptied.nd rfl rfl (by decide) rfl rfl (pa_cons (pe_call G_law_places hr_law_places rfl T.m_law_places T.F_law_places.kp T.b_law_places .nil pass0 (pa_cons (pv 0) (pa_cons pe_int (pa_cons pe_int pa_nil)))) (pa_cons (pe_op (show OpR _ _ (rAddU K) from op_addU) pe_int (pe_call G_law_take hr_law_take rfl T.m_law_take T.F_law_take.kp T.b_law_take .nil pass0 (pa_cons (pv 0) (pa_cons pe_int pa_nil)))) pa_nil)) rfl)
      (pss_cons (ps_par (i := 3) (j := 4) rfl sc_law_emptied.nd rfl rfl (by decide) rfl rfl (pa_cons (pe_ix (show IxR _ (rIx K) from ix_seq) (pe_ix (show IxR _ (rIx K) from ix_seq) (pv 1) pe_int (fun _ _ => rfl)) pe_int (fun _ _ => rfl)) (pa_cons (pe_ix (show IxR _ (rIx K) from ix_seq) (pe_ix (show IxR _ (rIx K) from ix_seq) (pv 1) pe_int (fun _ _ => rfl)) pe_int (fun _ _ => rfl)) pa_nil)) rfl)
      (pss_cons (ps_set (i := 5) sc_law_emptied.nd rfl (by first | exact Or.inl rfl | exact Or.inr rfl) (pe_call G_law_pick hr_law_pick rfl T.m_law_pick T.F_law_pick.kp T.b_law_pick .nil pass0 (pa_cons (pv 0) (pa_cons (pe_lst (pa_cons (pe_tup (pa_cons pe_str (pa_cons pe_int (pa_cons (pv 3) (pa_cons (pv 2) pa_nil))))) (pa_cons (pe_tup (pa_cons pe_str (pa_cons pe_int (pa_cons (pv 3) (pa_cons (pv 4) (pa_cons (pv 2) pa_nil)))))) (pa_cons (pe_tup (pa_cons pe_str (pa_cons pe_int (pa_cons (pv 3) (pa_cons (pv 2) (pa_cons pe_int (pa_cons (pv 2) pa_nil))))))) pa_nil)))) pa_nil))))
      (pss_cons (ps_set (i := 6) sc_law_emptied.nd rfl (by first | exact Or.inl rfl | exact Or.inr rfl) (pe_tup (pa_cons (pe_tup (pa_cons pe_str (pa_cons pe_int (pa_cons (pv 3) (pa_cons (pv 2) (pa_cons pe_int (pa_cons (pv 2) pa_nil))))))) (pa_cons (pv 5) (pa_cons (pe_tup (pa_cons pe_str (pa_cons pe_int (pa_cons (pv 3) (pa_cons pe_int (pa_cons pe_int (pa_cons pe_int pa_nil))))))) (pa_cons (pe_tup (pa_cons pe_str (pa_cons pe_int (pa_cons (pv 3) (pa_cons (pv 4) (pa_cons pe_int pa_nil)))))) pa_nil))))))
      (pss_cons (ps_par (i := 7) (j := 8) rfl sc_law_emptied.nd rfl rfl (by decide) rfl rfl (pa_cons (pe_make T.M_Hall G_Hall_init hrm_Hall rfl T.m_Hall T.b_Hall_init .nil pass0 (pa_cons (pv 1) (pa_cons (pv 6) pa_nil))) (pa_cons (pe_cmpR (show OpR _ _ (rEqU K) from op_eqU hr) (pe_ix (show IxR _ (rIx K) from ix_seq) (pv 5) pe_int (fun _ _ => rfl)) pe_str (nomark _)) pa_nil)) rfl)
      (pss_cons (ps_set (i := 9) sc_law_emptied.nd rfl (by first | exact Or.inl rfl | exact Or.inr rfl) (pe_tup (pa_cons (pe_call G_is_linked hr_is_linked rfl T.m_is_linked T.F_is_linked.kp T.b_is_linked .nil pass0 (pa_cons (pv 7) (pa_cons pe_int (pa_cons (pv 3) (pa_cons pe_int pa_nil))))) (pa_cons (pe_call G_is_linked hr_is_linked rfl T.m_is_linked T.F_is_linked.kp T.b_is_linked .nil pass0 (pa_cons (pv 7) (pa_cons pe_int (pa_cons (pv 4) (pa_cons pe_int pa_nil))))) (pa_cons (pe_call G_is_linked hr_is_linked rfl T.m_is_linked T.F_is_linked.kp T.b_is_linked .nil pass0 (pa_cons (pv 7) (pa_cons pe_int (pa_cons (pv 4) (pa_cons pe_int pa_nil))))) (pa_cons (pe_call G_is_linked hr_is_linked rfl T.m_is_linked T.F_is_linked.kp T.b_is_linked .nil pass0 (pa_cons (pv 7) (pa_cons pe_int (pa_cons (pv 3) (pa_cons pe_int pa_nil))))) (pa_cons (pe_call G_is_linked hr_is_linked rfl T.m_is_linked T.F_is_linked.kp T.b_is_linked .nil pass0 (pa_cons (pv 7) (pa_cons pe_int (pa_cons (pv 3) (pa_cons pe_int pa_nil))))) pa_nil)))))))
      (pss_cons (ps_if (pt_not (pt_val (pe_call G_law_same hr_law_same rfl T.m_law_same T.F_law_same.kp T.b_law_same .nil pass0 (pa_cons (pv 9) (pa_cons (pe_tup (pa_cons pe_bl (pa_cons (pv 8) (pa_cons pe_bl (pa_cons pe_bl (pa_cons pe_bl pa_nil)))))) pa_nil))))) (pss_one (ps_ret pe_bl)) pss_nil)
      (pss_one (ps_ret (pe_call G_law_same hr_law_same rfl T.m_law_same T.F_law_same.kp T.b_law_same .nil pass0 (pa_cons (pe_tup (pa_cons (pe_call G_way hr_way rfl T.m_way T.F_way.kp T.b_way .nil pass0 (pa_cons (pv 7) (pa_cons pe_int (pa_cons (pv 3) (pa_cons pe_int pa_nil))))) (pa_cons (pe_call G_way hr_way rfl T.m_way T.F_way.kp T.b_way .nil pass0 (pa_cons (pv 7) (pa_cons pe_int (pa_cons (pv 4) (pa_cons pe_int pa_nil))))) (pa_cons (pe_call G_way hr_way rfl T.m_way T.F_way.kp T.b_way .nil pass0 (pa_cons (pv 7) (pa_cons pe_int (pa_cons (pv 4) (pa_cons pe_int pa_nil))))) (pa_cons (pe_call G_way hr_way rfl T.m_way T.F_way.kp T.b_way .nil pass0 (pa_cons (pv 7) (pa_cons pe_int (pa_cons (pv 3) (pa_cons pe_int pa_nil))))) pa_nil))))) (pa_cons (pe_tup (pa_cons pe_non (pa_cons (pe_ifExp (pt_val (pv 8)) (pe_tup (pa_cons pe_int (pa_cons pe_int pa_nil))) pe_non) (pa_cons (pe_tup (pa_cons pe_int (pa_cons pe_int pa_nil))) (pa_cons (pe_tup (pa_cons pe_int pa_nil)) pa_nil))))) pa_nil)))))))))))), fn_body (fun as Φ hs => ?_) vs H Q E h⟩
    obtain ⟨rfl, h⟩ := hs
    refine ws_seq (ws_par (wp_dat ?_))
    refine we_call ?_
    refine wa_well rfl ?_
    refine wa_cons ?_
    refine we_int ?_
    refine wa_cons ?_
    refine we_int ?_
    refine wa_nil ?_
    refine ⟨2, 1, rfl, by decide, by decide, by decide, fun ps op hpl => wp_dat ?_⟩
    refine we_op ?_
    refine we_int ?_
    refine we_call ?_
    refine wa_well rfl ?_
    refine wa_cons ?_
    refine we_int ?_
    refine wa_nil ?_
    refine ⟨900, rfl, by omega, by omega, fun t t0 t1 => os_add_int (wp_nil ⟨_, _, rfl, ?_⟩)⟩
    obtain ⟨o, lo, p, lp, rfl⟩ : ∃ o lo p lp, ps = [(o, lo), (p, lp)] := by
      match ps, hpl with
      | [(o, lo), (p, lp)], _ => exact ⟨o, lo, p, lp, rfl⟩
    have ne : p ≠ o := fun e => by
      have := op.nd
      simp [e] at this
    have ho : o ∈ [(o, lo), (p, lp)].map (·.1) := by simp
    have hp : p ∈ [(o, lo), (p, lp)].map (·.1) := by simp
    generalize hc : 1 + t = c
    have c1 : 1 ≤ c := by omega
    have c9 : c ≤ 999 := by omega
    refine ws_seq (ws_par (wp_dat ?_))
    refine we_op ?_
    refine we_op ?_
    refine we_var rfl ?_
    refine we_int ?_
    refine os_ix_tup rfl ?_
    refine we_int ?_
    refine os_ix_tup rfl ?_
    refine wp_dat ?_
    refine we_op ?_
    refine we_op ?_
    refine we_var rfl ?_
    refine we_int ?_
    refine os_ix_tup rfl ?_
    refine we_int ?_
    refine os_ix_tup rfl ?_
    refine wp_nil ⟨_, _, rfl, ?_⟩
    refine ws_seq (ws_asg ?_)
    refine we_call ?_
    refine wa_well rfl ?_
    refine wa_cons ?_
    refine we_lst ?_
    refine wa_cons ?_
    refine we_tup ?_
    refine wa_cons ?_
    refine we_str ?_
    refine wa_cons ?_
    refine we_int ?_
    refine wa_cons ?_
    refine we_var rfl ?_
    refine wa_cons ?_
    refine we_var rfl ?_
    refine wa_nil ?_
    refine ⟨by show 4 ≤ 100000; decide, _, rfl, ?_⟩
    refine wa_cons ?_
    refine we_tup ?_
    refine wa_cons ?_
    refine we_str ?_
    refine wa_cons ?_
    refine we_int ?_
    refine wa_cons ?_
    refine we_var rfl ?_
    refine wa_cons ?_
    refine we_var rfl ?_
    refine wa_cons ?_
    refine we_var rfl ?_
    refine wa_nil ?_
    refine ⟨by show 5 ≤ 100000; decide, _, rfl, ?_⟩
    refine wa_cons ?_
    refine we_tup ?_
    refine wa_cons ?_
    refine we_str ?_
    refine wa_cons ?_
    refine we_int ?_
    refine wa_cons ?_
    refine we_var rfl ?_
    refine wa_cons ?_
    refine we_var rfl ?_
    refine wa_cons ?_
    refine we_int ?_
    refine wa_cons ?_
    refine we_var rfl ?_
    refine wa_nil ?_
    refine ⟨by show 6 ≤ 100000; decide, _, rfl, ?_⟩
    refine wa_nil ?_
    refine ⟨by show 3 ≤ 100000; decide, _, rfl, ?_⟩
    refine wa_nil ?_
    refine ⟨_, _, rfl, .inl rfl, by show 0 < 3; decide, by show 3 ≤ 1000; decide, fun d hd => ?_⟩
    obtain ⟨g, rfl, hg⟩ : ∃ g, d = evD g ∧ Gone o p c g := by
      simp only [List.mem_cons, List.not_mem_nil, or_false] at hd
      rcases hd with rfl | rfl | rfl
      · exact ⟨.away 1 o c, rfl, .inl rfl⟩
      · exact ⟨.move 1 o p c, rfl, .inr (.inl rfl)⟩
      · exact ⟨.sample 1 o c 0 c, rfl, .inr (.inr rfl)⟩
    have oe := esE_ok c g ho hp ne c1 c9 hg
    have w3 := wE3 c g hg ne
    have w1 := wE1 c g hg ne
    have w23 := wE23 c g hg ne
    have w00 : waysN (esE o p c g) 0 0 = [(o, [0])] := rfl
    have w20 : waysN (esE o p c g) 2 0 = [(o, [2])] := rfl
    refine ws_seq (ws_asg ?_)
    refine we_tup ?_
    refine wa_cons ?_
    refine we_tup ?_
    refine wa_cons ?_
    refine we_str ?_
    refine wa_cons ?_
    refine we_int ?_
    refine wa_cons ?_
    refine we_var rfl ?_
    refine wa_cons ?_
    refine we_var rfl ?_
    refine wa_cons ?_
    refine we_int ?_
    refine wa_cons ?_
    refine we_var rfl ?_
    refine wa_nil ?_
    refine ⟨by show 6 ≤ 100000; decide, _, rfl, ?_⟩
    refine wa_cons ?_
    refine we_var rfl ?_
    refine wa_cons ?_
    refine we_tup ?_
    refine wa_cons ?_
    refine we_str ?_
    refine wa_cons ?_
    refine we_int ?_
    refine wa_cons ?_
    refine we_var rfl ?_
    refine wa_cons ?_
    refine we_int ?_
    refine wa_cons ?_
    refine we_int ?_
    refine wa_cons ?_
    refine we_int ?_
    refine wa_nil ?_
    refine ⟨by show 6 ≤ 100000; decide, _, rfl, ?_⟩
    refine wa_cons ?_
    refine we_tup ?_
    refine wa_cons ?_
    refine we_str ?_
    refine wa_cons ?_
    refine we_int ?_
    refine wa_cons ?_
    refine we_var rfl ?_
    refine wa_cons ?_
    refine we_var rfl ?_
    refine wa_cons ?_
    refine we_int ?_
    refine wa_nil ?_
    refine ⟨by show 5 ≤ 100000; decide, _, rfl, ?_⟩
    refine wa_nil ?_
    refine ⟨by show 4 ≤ 100000; decide, _, rfl, ?_⟩
    refine ws_seq (ws_par (wp_dat (we_make ?_)))
    refine wa_cons ?_
    refine we_var rfl ?_
    refine wa_cons ?_
    refine we_var rfl ?_
    refine wa_nil ?_
    refine ⟨[(o, lo), (p, lp)], esE o p c g, rfl, op, oe, wp_dat ?_⟩
    refine we_op ?_
    refine we_op ?_
    refine we_var rfl ?_
    refine we_int ?_
    refine os_ix_tup (ev_kind g) ?_
    refine we_str ?_
    refine os_eq_str ?_
    rw [kind_move]
    refine wp_nil ⟨_, _, rfl, ?_⟩
    have lk : ∀ (z : Str) (k n : Nat), (z = o ∨ z = p) → (k = 0 ∨ k = 2) → k + n < 4 → LkOk [(o, lo), (p, lp)] (esE o p c g) z k n := fun z k n hz hk hl =>
      ⟨op, oe, by rcases hz with rfl | rfl; exact ho; exact hp, by rcases hk with rfl | rfl; exact ⟨_, rfl, rfl⟩; exact ⟨_, rfl, rfl⟩, hl⟩
    refine ws_seq (ws_asg ?_)
    refine we_tup ?_
    refine wa_cons ?_
    refine we_call ?_
    refine wa_cons ?_
    refine we_var rfl ?_
    refine wa_cons ?_
    refine we_int ?_
    refine wa_cons ?_
    refine we_var rfl ?_
    refine wa_cons ?_
    refine we_int ?_
    refine wa_nil ?_
    refine ⟨_, _, o, 0, 3, rfl, lk o 0 3 (.inl rfl) (.inl rfl) (by decide), ?_⟩
    rw [show decide (o ∈ (waysN (esE o p c g) 0 3).map (·.1)) = false by rw [w3]; split <;> simp [ne.symm]]
    refine wa_cons ?_
    refine we_call ?_
    refine wa_cons ?_
    refine we_var rfl ?_
    refine wa_cons ?_
    refine we_int ?_
    refine wa_cons ?_
    refine we_var rfl ?_
    refine wa_cons ?_
    refine we_int ?_
    refine wa_nil ?_
    refine ⟨_, _, p, 0, 3, rfl, lk p 0 3 (.inr rfl) (.inl rfl) (by decide), ?_⟩
    rw [show decide (p ∈ (waysN (esE o p c g) 0 3).map (·.1)) = isMv g by rw [w3]; cases isMv g <;> simp]
    refine wa_cons ?_
    refine we_call ?_
    refine wa_cons ?_
    refine we_var rfl ?_
    refine wa_cons ?_
    refine we_int ?_
    refine wa_cons ?_
    refine we_var rfl ?_
    refine wa_cons ?_
    refine we_int ?_
    refine wa_nil ?_
    refine ⟨_, _, p, 2, 1, rfl, lk p 2 1 (.inr rfl) (.inr rfl) (by decide), ?_⟩
    rw [show decide (p ∈ (waysN (esE o p c g) 2 1).map (·.1)) = true by rw [w23]; simp]
    refine wa_cons ?_
    refine we_call ?_
    refine wa_cons ?_
    refine we_var rfl ?_
    refine wa_cons ?_
    refine we_int ?_
    refine wa_cons ?_
    refine we_var rfl ?_
    refine wa_cons ?_
    refine we_int ?_
    refine wa_nil ?_
    refine ⟨_, _, o, 0, 0, rfl, lk o 0 0 (.inl rfl) (.inl rfl) (by decide), ?_⟩
    rw [show decide (o ∈ (waysN (esE o p c g) 0 0).map (·.1)) = true by rw [w00]; simp]
    refine wa_cons ?_
    refine we_call ?_
    refine wa_cons ?_
    refine we_var rfl ?_
    refine wa_cons ?_
    refine we_int ?_
    refine wa_cons ?_
    refine we_var rfl ?_
    refine wa_cons ?_
    refine we_int ?_
    refine wa_nil ?_
    refine ⟨_, _, o, 0, 1, rfl, lk o 0 1 (.inl rfl) (.inl rfl) (by decide), ?_⟩
    rw [show decide (o ∈ (waysN (esE o p c g) 0 1).map (·.1)) = false by rw [w1]; split <;> simp [ne.symm]]
    refine wa_nil ?_
    refine ⟨by show 5 ≤ 100000; decide, _, rfl, ?_⟩
    refine ws_seq (ws_if (wt_not (wt_B ?_)))
    refine we_call ?_
    refine wa_cons ?_
    refine we_var rfl ?_
    refine wa_cons ?_
    refine we_tup ?_
    refine wa_cons ?_
    refine we_bl ?_
    refine wa_cons ?_
    refine we_var rfl ?_
    refine wa_cons ?_
    refine we_bl ?_
    refine wa_cons ?_
    refine we_bl ?_
    refine wa_cons ?_
    refine we_bl ?_
    refine wa_nil ?_
    refine ⟨by show 5 ≤ 100000; decide, _, rfl, ?_⟩
    refine wa_nil ?_
    refine ⟨_, rfl, ⟨by show 5 ≤ 1000; decide, fun x hx => ?_⟩, true, rfl, nofun, fun _ => ws_next ?_⟩
    · simp only [List.mem_cons, List.not_mem_nil, or_false] at hx
      rcases hx with rfl | rfl | rfl | rfl | rfl <;> trivial
    refine ws_ret ?_
    refine we_call ?_
    refine wa_cons ?_
    refine we_tup ?_
    refine wa_cons ?_
    refine we_call ?_
    refine wa_cons ?_
    refine we_var rfl ?_
    refine wa_cons ?_
    refine we_int ?_
    refine wa_cons ?_
    refine we_var rfl ?_
    refine wa_cons ?_
    refine we_int ?_
    refine wa_nil ?_
    refine ⟨_, _, o, 0, 3, rfl, lk o 0 3 (.inl rfl) (.inl rfl) (by decide), ?_⟩
    rw [show wayD (waysN (esE o p c g) 0 3) o = .non by unfold wayD wGet; rw [w3]; cases isMv g <;> simp [ne]]
    refine wa_cons ?_
    refine we_call ?_
    refine wa_cons ?_
    refine we_var rfl ?_
    refine wa_cons ?_
    refine we_int ?_
    refine wa_cons ?_
    refine we_var rfl ?_
    refine wa_cons ?_
    refine we_int ?_
    refine wa_nil ?_
    refine ⟨_, _, p, 0, 3, rfl, lk p 0 3 (.inr rfl) (.inl rfl) (by decide), ?_⟩
    rw [show wayD (waysN (esE o p c g) 0 3) p = (if isMv g = true then .tup [.int 0, .int 1] else .non) by unfold wayD wGet; rw [w3]; cases isMv g <;> simp]
    refine wa_cons ?_
    refine we_call ?_
    refine wa_cons ?_
    refine we_var rfl ?_
    refine wa_cons ?_
    refine we_int ?_
    refine wa_cons ?_
    refine we_var rfl ?_
    refine wa_cons ?_
    refine we_int ?_
    refine wa_nil ?_
    refine ⟨_, _, p, 2, 1, rfl, lk p 2 1 (.inr rfl) (.inr rfl) (by decide), ?_⟩
    rw [show wayD (waysN (esE o p c g) 2 1) p = .tup [.int 2, .int 3] by unfold wayD wGet; rw [w23]; simp [ne.symm]]
    refine wa_cons ?_
    refine we_call ?_
    refine wa_cons ?_
    refine we_var rfl ?_
    refine wa_cons ?_
    refine we_int ?_
    refine wa_cons ?_
    refine we_var rfl ?_
    refine wa_cons ?_
    refine we_int ?_
    refine wa_nil ?_
    refine ⟨_, _, o, 2, 0, rfl, lk o 2 0 (.inl rfl) (.inr rfl) (by decide), ?_⟩
    rw [show wayD (waysN (esE o p c g) 2 0) o = .tup [.int 2] by unfold wayD wGet; rw [w20]; simp]
    refine wa_nil ?_
    refine ⟨by show 4 ≤ 100000; decide, _, rfl, ?_⟩
    refine wa_cons ?_
    refine we_tup ?_
    refine wa_cons ?_
    refine we_non ?_
    refine wa_cons (WE.imp (Φ := fun d => d = (if isMv g = true then .tup [.int 0, .int 1] else .non)) ?_ fun d hd => ?_)
    · refine we_if (wt_B (we_var rfl ⟨_, rfl, fun e => ?_, fun e => ?_⟩))
      · refine we_tup ?_
        refine wa_cons ?_
        refine we_int ?_
        refine wa_cons ?_
        refine we_int ?_
        refine wa_nil ?_
        refine ⟨by show 2 ≤ 100000; decide, _, rfl, ?_⟩
        rw [if_pos e]
      · refine we_non ?_
        rw [if_neg (by rw [e]; exact Bool.false_ne_true)]
    subst hd
    refine wa_cons ?_
    refine we_tup ?_
    refine wa_cons ?_
    refine we_int ?_
    refine wa_cons ?_
    refine we_int ?_
    refine wa_nil ?_
    refine ⟨by show 2 ≤ 100000; decide, _, rfl, ?_⟩
    refine wa_cons ?_
    refine we_tup ?_
    refine wa_cons ?_
    refine we_int ?_
    refine wa_nil ?_
    refine ⟨by show 1 ≤ 100000; decide, _, rfl, ?_⟩
    refine wa_nil ?_
    refine ⟨by show 4 ≤ 100000; decide, _, rfl, ?_⟩
    refine wa_nil ?_
    refine ⟨_, rfl, ⟨by show 4 ≤ 1000; decide, fun x hx => ?_⟩, h⟩
    simp only [List.mem_cons, List.not_mem_nil, or_false] at hx
    have n1 : ∀ l : List Int, l.length ≤ 1000 → Nice 2 (.tup (l.map D.int)) := fun l hl => ⟨by rw [List.length_map]; exact hl, fun x hx => by obtain ⟨i, _, rfl⟩ := List.mem_map.mp hx; trivial⟩
    rcases hx with rfl | rfl | rfl | rfl
    · trivial
    · split
      · exact n1 [0, 1] (by decide)
      · trivial
    · exact n1 [2, 3] (by decide)
    · exact n1 [2] (by decide)
  case len => obtain ⟨rfl, _⟩ := h; rfl
end
end T25

namespace T25
open PySem PySem.Spec PyProof.Rows L2 Z
def spLaw (K : PySem.W.Frag) : Sp := fun vs H Q _ => ∃ (a : Addr) (ns : List Int), vs = [.ref a] ∧ SqL K H a (ns.map V.int) ∧ ns.length ≤ 63 ∧ ∀ H', Q (.bl true) H'
theorem pick_ints {Ψ : D → Prop} {l : List Int} {lo hi : Int} (hb : ∀ i ∈ l, lo ≤ i ∧ i ≤ hi) (h : ∀ i : Int, lo ≤ i → i ≤ hi → Ψ (.int i)) : ∀ d, d ∈ l.map D.int → Ψ d := fun d hd => by
  obtain ⟨i, hi, rfl⟩ := List.mem_map.mp hd
  exact h i (hb i hi).1 (hb i hi).2
section
variable {P : Program} {w : World} {K : PySem.W.Frag} {mg : Str → Option Value} {base : Heap} {A : Adr}
def S_law_round : List AV → (D → Prop) → Prop := fun as Φ => as = [.well] ∧ Φ (.bl true)
theorem ok_law_round (T : Txt K mg A w) : FnOk P w K mg base CX0 11 A.f_law_round A.d_law_round ["well"] (spA K S_law_round) := by
  have G_law_asked := ok_law_asked (P := P) (w := w) (base := base) T
  have G_law_chain := ok_law_chain (P := P) (w := w) (base := base) T
  have G_law_drawn := ok_law_drawn (P := P) (w := w) (base := base) T
  have G_law_emptied := ok_law_emptied (P := P) (w := w) (base := base) T
  have G_law_pick := ok_law_pick (P := P) (w := w) (base := base) T
  have G_law_places := ok_law_places (P := P) (w := w) (base := base) T
  have G_law_take := ok_law_take (P := P) (w := w) (base := base) T
  refine T.F_law_round.ok sc_law_round (fun vs H Q E h => spA_len h fun as Φ h => ?len) (fun cdv Ar outer s H vs Q E hr h => ?body)
  case body =>
    have hr_law_asked := hr.mono (k := _) (j := _) (by decide : 9 ≤ 10)
    have hr_law_chain := hr.mono (k := _) (j := _) (by decide : 10 ≤ 10)
    have hr_law_drawn := hr.mono (k := _) (j := _) (by decide : 5 ≤ 10)
    have hr_law_emptied := hr.mono (k := _) (j := _) (by decide : 9 ≤ 10)
    have hr_law_pick := hr.mono (k := _) (j := _) (by decide : 2 ≤ 10)
    have hr_law_places := hr.mono (k := _) (j := _) (by decide : 4 ≤ 10)
    have hr_law_take := hr.mono (k := _) (j := _) (by decide : 1 ≤ 10)
    refine ⟨_, (pss_cons (ps_for PassesOwn.never rfl (pi_range1 (by rfl) T.z_range (pa_cons pe_int pa_nil)) (pg_name (i := 1) sc_law_round.nd rfl (by first | exact Or.inl rfl | exact Or.inr rfl)) (pss_cons (ps_set (i := 2) sc_law_round.nd rfl (by first | exact Or.inl rfl | exact Or.inr rfl) (pe_call G_law_places hr_law_places rfl T.m_law_places T.F_law_places.kp T.b_law_places .nil pass0 (pa_cons (pv 0) (pa_cons (pe_op (show OpR _ _ (rAddU K) from op_addU) pe_int (pe_call G_law_take hr_law_take rfl T.m_law_take T.F_law_take.kp T.b_law_take .nil pass0 (pa_cons (pv 0) (pa_cons pe_int pa_nil)))) (pa_cons pe_int pa_nil)))))
      (pss_cons (ps_asg (pe_call G_law_drawn hr_law_drawn rfl T.m_law_drawn T.F_law_drawn.kp T.b_law_drawn .nil pass0 (pa_cons (pv 0) (pa_cons (pv 2) (pa_cons (pe_call G_law_pick hr_law_pick rfl T.m_law_pick T.F_law_pick.kp T.b_law_pick .nil pass0 (pa_cons (pv 0) (pa_cons (pe_lst (pa_cons pe_int (pa_cons pe_int (pa_cons pe_int (pa_cons pe_int (pa_cons pe_int pa_nil)))))) pa_nil))) (pa_cons (pe_call G_law_pick hr_law_pick rfl T.m_law_pick T.F_law_pick.kp T.b_law_pick .nil pass0 (pa_cons (pv 0) (pa_cons (pe_lst (pa_cons pe_int (pa_cons pe_int (pa_cons pe_int pa_nil)))) pa_nil))) (pa_cons pe_bl pa_nil)))))) (show PG _ _ (gTup K _ _) from pg_tup (n := 2) rfl (pgs_cons (pg_name (i := 3) sc_law_round.nd rfl (by first | exact Or.inl rfl | exact Or.inr rfl)) (pgs_cons (pg_name (i := 4) sc_law_round.nd rfl (by first | exact Or.inl rfl | exact Or.inr rfl)) pgs_nil))))
      (pss_one (ps_if (pt_not (pt_val (pe_call G_law_asked hr_law_asked rfl T.m_law_asked T.F_law_asked.kp T.b_law_asked .nil pass0 (pa_cons (pv 0) (pa_cons (pv 2) (pa_cons (pv 3) (pa_cons pe_int pa_nil))))))) (pss_one (ps_ret pe_bl)) pss_nil)))))
      (pss_cons (ps_set (i := 2) sc_law_round.nd rfl (by first | exact Or.inl rfl | exact Or.inr rfl) (pe_call G_law_places hr_law_places rfl T.m_law_places T.F_law_places.kp T.b_law_places .nil pass0 (pa_cons (pv 0) (pa_cons (pe_op op_sub pe_int (pe_call G_law_pick hr_law_pick rfl T.m_law_pick T.F_law_pick.kp T.b_law_pick .nil pass0 (pa_cons (pv 0) (pa_cons (pe_lst (pa_cons pe_int (pa_cons pe_int (pa_cons pe_int (pa_cons pe_int pa_nil))))) pa_nil)))) (pa_cons pe_int pa_nil)))))
      (pss_cons (ps_asg (pe_call G_law_drawn hr_law_drawn rfl T.m_law_drawn T.F_law_drawn.kp T.b_law_drawn .nil pass0 (pa_cons (pv 0) (pa_cons (pv 2) (pa_cons (pe_op op_sub pe_int (pe_call G_law_pick hr_law_pick rfl T.m_law_pick T.F_law_pick.kp T.b_law_pick .nil pass0 (pa_cons (pv 0) (pa_cons (pe_lst (pa_cons pe_int (pa_cons pe_int (pa_cons pe_int (pa_cons pe_int pa_nil))))) pa_nil)))) (pa_cons (pe_call G_law_pick hr_law_pick rfl T.m_law_pick T.F_law_pick.kp T.b_law_pick .nil pass0 (pa_cons (pv 0) (pa_cons (pe_lst (pa_cons pe_int (pa_cons pe_int (pa_cons pe_int pa_nil)))) pa_nil))) (pa_cons pe_bl pa_nil)))))) (show PG _ _ (gTup K _ _) from pg_tup (n := 2) rfl (pgs_cons (pg_name (i := 3) sc_law_round.nd rfl (by first | exact Or.inl rfl | exact Or.inr rfl)) (pgs_cons (pg_name (i := 4) sc_law_round.nd rfl (by first | exact Or.inl rfl | exact Or.inr rfl)) pgs_nil))))
      (pss_one (ps_ret (pe_and (pe_call G_law_asked hr_law_asked rfl T.m_law_asked T.F_law_asked.kp T.b_law_asked .nil pass0 (pa_cons (pv 0) (pa_cons (pv 2) (pa_cons (pv 3) (pa_cons pe_int pa_nil))))) (pe_and (pe_call G_law_chain hr_law_chain rfl T.m_law_chain T.F_law_chain.kp T.b_law_chain .nil pass0 (pa_cons (pv 0) pa_nil)) (pe_one (pe_call G_law_emptied hr_law_emptied rfl T.m_law_emptied T.F_law_emptied.kp T.b_law_emptied .nil pass0 (pa_cons (pv 0) pa_nil)))))))))), fn_body (fun as Φ hs => ?_) vs H Q E h⟩
    obtain ⟨rfl, h⟩ := hs
    refine ws_forU (fun i δ' => δ' = [some .well, none, none, none, none]) ⟨_, rfl, by walk_at "zt"⟩ ?_
    refine wi_rng1 ?_
    refine wa_cons ?_
    refine we_int ?_
    refine wa_nil ?_
    refine ⟨3, rfl, by omega, fun i d δ0 hi hP => ?_, fun δ0 hP => ?_⟩
    · subst hP
      refine wg_name (ws_seq (ws_asg ?_))
      refine we_call ?_
      refine wa_well rfl ?_
      refine wa_cons ?_
      refine we_op ?_
      refine we_int ?_
      refine we_call ?_
      refine wa_well rfl ?_
      refine wa_cons ?_
      refine we_int ?_
      refine wa_nil ?_
      refine ⟨3, rfl, by omega, by omega, fun t t0 t1 => ?_⟩
      obtain ⟨t, rfl⟩ : ∃ n : Nat, t = (n : Int) := ⟨t.toNat, by omega⟩
      refine os_add_int ?_
      refine wa_cons ?_
      refine we_int ?_
      refine wa_nil ?_
      refine ⟨1 + t, 1, by rw [show ((1 + t : Nat) : Int) = 1 + (t : Int) by omega]; rfl, by omega, by omega, by decide, fun ps op hpl => ?_⟩
      refine ws_seq (ws_asgT ?_)
      refine we_call ?_
      refine wa_well rfl ?_
      refine wa_cons ?_
      refine we_var rfl ?_
      refine wa_cons ?_
      refine we_call ?_
      refine wa_well rfl ?_
      refine wa_cons ?_
      refine we_lst ?_
      refine wa_cons ?_
      refine we_int ?_
      refine wa_cons ?_
      refine we_int ?_
      refine wa_cons ?_
      refine we_int ?_
      refine wa_cons ?_
      refine we_int ?_
      refine wa_cons ?_
      refine we_int ?_
      refine wa_nil ?_
      refine ⟨by show 5 ≤ 100000; decide, _, rfl, ?_⟩
      refine wa_nil ?_
      refine ⟨_, _, rfl, .inl rfl, by show 0 < 5; decide, by show 5 ≤ 1000; decide, pick_ints (l := [5, 6, 7, 3, 1]) (lo := 0) (hi := 40) (by decide) fun m m0 m1 => ?_⟩
      refine wa_cons ?_
      refine we_call ?_
      refine wa_well rfl ?_
      refine wa_cons ?_
      refine we_lst ?_
      refine wa_cons ?_
      refine we_int ?_
      refine wa_cons ?_
      refine we_int ?_
      refine wa_cons ?_
      refine we_int ?_
      refine wa_nil ?_
      refine ⟨by show 3 ≤ 100000; decide, _, rfl, ?_⟩
      refine wa_nil ?_
      refine ⟨_, _, rfl, .inl rfl, by show 0 < 3; decide, by show 3 ≤ 1000; decide, pick_ints (l := [2, 1, 3]) (lo := 1) (hi := 999) (by decide) fun mo o0 o1 => ?_⟩
      refine wa_cons ?_
      refine we_bl ?_
      refine wa_nil ?_
      obtain ⟨m, rfl⟩ : ∃ n : Nat, m = (n : Int) := ⟨m.toNat, by omega⟩
      refine ⟨ps, m, mo, true, rfl, op, by omega, o0, o1, fun es hel oe => ?_⟩
      refine wg_tup rfl (wgs_cons (wg_name (wgs_cons (wg_name (wgs_nil ?_)))))
      refine ws_if (wt_not (wt_B ?_))
      refine we_call ?_
      refine wa_well rfl ?_
      refine wa_cons ?_
      refine we_var rfl ?_
      refine wa_cons ?_
      refine we_var rfl ?_
      refine wa_cons ?_
      refine we_int ?_
      refine wa_nil ?_
      exact ⟨ps, es.map (·.1), 4, rfl, op, oe, by decide, true, rfl, nofun, fun _ => ws_next ⟨_, rfl, by walk_at "zt"⟩⟩
    · subst hP
      refine ws_seq (ws_asg ?_)
      refine we_call ?_
      refine wa_well rfl ?_
      refine wa_cons ?_
      refine we_op ?_
      refine we_int ?_
      refine we_call ?_
      refine wa_well rfl ?_
      refine wa_cons ?_
      refine we_lst ?_
      refine wa_cons ?_
      refine we_int ?_
      refine wa_cons ?_
      refine we_int ?_
      refine wa_cons ?_
      refine we_int ?_
      refine wa_cons ?_
      refine we_int ?_
      refine wa_nil ?_
      refine ⟨by show 4 ≤ 100000; decide, _, rfl, ?_⟩
      refine wa_nil ?_
      refine ⟨_, _, rfl, .inl rfl, by show 0 < 4; decide, by show 4 ≤ 1000; decide, pick_ints (l := [0, 0, 3, 6]) (lo := 0) (hi := 6) (by decide) fun m m0 m1 => ?_⟩
      refine os_sub ?_
      refine wa_cons ?_
      refine we_int ?_
      refine wa_nil ?_
      refine ⟨(12 - m).toNat, 8, by rw [show (((12 - m).toNat : Nat) : Int) = 12 - m by omega]; rfl, by omega, by omega, by decide, fun ps op hpl => ?_⟩
      refine ws_seq (ws_asgT ?_)
      refine we_call ?_
      refine wa_well rfl ?_
      refine wa_cons ?_
      refine we_var rfl ?_
      refine wa_cons ?_
      refine we_op ?_
      refine we_int ?_
      refine we_call ?_
      refine wa_well rfl ?_
      refine wa_cons ?_
      refine we_lst ?_
      refine wa_cons ?_
      refine we_int ?_
      refine wa_cons ?_
      refine we_int ?_
      refine wa_cons ?_
      refine we_int ?_
      refine wa_cons ?_
      refine we_int ?_
      refine wa_nil ?_
      refine ⟨by show 4 ≤ 100000; decide, _, rfl, ?_⟩
      refine wa_nil ?_
      refine ⟨_, _, rfl, .inl rfl, by show 0 < 4; decide, by show 4 ≤ 1000; decide, pick_ints (l := [0, 0, 1, 9]) (lo := 0) (hi := 9) (by decide) fun m2 n0 n1 => ?_⟩
      refine os_sub ?_
      refine wa_cons ?_
      refine we_call ?_
      refine wa_well rfl ?_
      refine wa_cons ?_
      refine we_lst ?_
      refine wa_cons ?_
      refine we_int ?_
      refine wa_cons ?_
      refine we_int ?_
      refine wa_cons ?_
      refine we_int ?_
      refine wa_nil ?_
      refine ⟨by show 3 ≤ 100000; decide, _, rfl, ?_⟩
      refine wa_nil ?_
      refine ⟨_, _, rfl, .inl rfl, by show 0 < 3; decide, by show 3 ≤ 1000; decide, pick_ints (l := [1, 2, 999]) (lo := 1) (hi := 999) (by decide) fun mo o0 o1 => ?_⟩
      refine wa_cons ?_
      refine we_bl ?_
      refine wa_nil ?_
      refine ⟨ps, (40 - m2).toNat, mo, true, by rw [show (((40 - m2).toNat : Nat) : Int) = 40 - m2 by omega], op, by omega, o0, o1, fun es hel oe => ?_⟩
      refine wg_tup rfl (wgs_cons (wg_name (wgs_cons (wg_name (wgs_nil ?_)))))
      refine ws_ret (we_and ?_)
      refine we_call ?_
      refine wa_well rfl ?_
      refine wa_cons ?_
      refine we_var rfl ?_
      refine wa_cons ?_
      refine we_var rfl ?_
      refine wa_cons ?_
      refine we_int ?_
      refine wa_nil ?_
      refine ⟨ps, es.map (·.1), 5, rfl, op, oe, by decide, true, rfl, fun _ => we_and ?_, nofun⟩
      refine we_call ?_
      refine wa_well rfl ?_
      refine wa_nil ?_
      refine ⟨rfl, true, rfl, fun _ => ?_, nofun⟩
      refine we_call ?_
      refine wa_well rfl ?_
      refine wa_nil ?_
      exact ⟨rfl, h⟩
  case len => obtain ⟨rfl, _⟩ := h; rfl
def S_law : List AV → (D → Prop) → Prop := fun as Φ => ∃ xs : List Int, as = [.dat (.fl xs)] ∧ xs.length ≤ 63 ∧ Φ (.bl true)
theorem ok_law (T : Txt K mg A w) : FnOk P w K mg base CX0 12 A.f_law A.d_law ["script"] (spLaw K) := by
  have G_law_well := ok_law_well (P := P) (w := w) (base := base) T
  have G_law_round := ok_law_round (P := P) (w := w) (base := base) T
  refine T.F_law.ok sc_law (fun vs H Q E h => ?len) (fun cdv Ar outer s H vs Q E hr h => ?body)
  case len => obtain ⟨_, _, rfl, _⟩ := h; rfl
  case body =>
    have hr_law_well := hr.mono (k := _) (j := _) (by decide : 1 ≤ 11)
    have hr_law_round := hr.mono (k := _) (j := _) (by decide : 11 ≤ 11)
    have hsp : spA K S_law vs H Q E := by
      obtain ⟨a, ns, rfl, hq, hl, k⟩ := h
      have hfl : Rep K (fun _ => False) H (.ref a) (.fl ns) := .fl (hq.elim (fun r => .inl ⟨r, fun f => f⟩) .inr)
      exact ⟨[.dat (.fl ns)], fun _ => False, fun _ => False, fun d => d = .bl true, ⟨fun a f => f, fun a f => f.elim, fun a f => f.elim⟩, .dat hfl .nil, ⟨ns, rfl, hl, rfl⟩, fun v H' d _ r e => by subst e; cases r; exact k H'⟩
    refine ⟨_, (pss_one (ps_ret (pe_callB (show CallR _ _ (rAll K) from cr_all rfl) (by rfl) T.z_all boot_all (pa_cons (pe_lc (own := [("turn", 1)]) rfl sc_law.nd (pi_range1 (by rfl) T.z_range (pa_cons (pe_callB (show CallR _ _ (rMaxU K) from call_maxU rfl) (by rfl) T.z_max boot_max (pa_cons pe_int (pa_cons (pe_callB (show CallR _ _ (rMinU K) from call_minU rfl) (by rfl) T.z_min boot_min (pa_cons (pe_callB (show CallR _ _ (rLenU K) from call_lenU) (by rfl) T.z_len PySem.boot_len (pa_cons (pv 0) pa_nil)) (pa_cons pe_int pa_nil))) pa_nil))) pa_nil)) (blkOk_by (N := ["script", "turn"]) (sc := defScope s_law) (by decide +kernel)) (fun _ _ _ _ _ => (pg_name (i := 1) sc_law.nd rfl (by first | exact Or.inl rfl | exact Or.inr rfl))) (fun _ _ _ _ _ => pts_nil) (fun _ _ _ _ _ => (pe_call G_law_round hr_law_round rfl T.m_law_round T.F_law_round.kp T.b_law_round .nil pass0 (pa_cons (pe_call G_law_well hr_law_well rfl T.m_law_well T.F_law_well.kp T.b_law_well .nil pass0 (pa_cons (pv 0) (pa_cons (pv 1) pa_nil))) pa_nil)))) pa_nil))))
, fn_body (S0 := S_law) (fun as Φ hs => ?_) vs H Q E hsp⟩
    obtain ⟨xs, rfl, hl, h⟩ := hs
    refine ws_ret (we_cb (wa_cons (we_lcX (wr_name 1) (mono_name 1) (by simp) ?_)))
    refine wi_rng1 ?_
    refine wa_cons ?_
    refine we_cb ?_
    refine wa_cons ?_
    refine we_int ?_
    refine wa_cons ?_
    refine we_cb ?_
    refine wa_cons ?_
    refine we_cb ?_
    refine wa_cons ?_
    refine we_var rfl ?_
    refine wa_nil ?_
    refine cs_len rfl ?_
    refine wa_cons ?_
    refine we_int ?_
    refine wa_nil ?_
    refine cs_min2 ?_
    refine wa_nil ?_
    refine cs_max2 ?_
    refine wa_nil ?_
    refine ⟨_, rfl, by omega, Nat, List.range (max 2 (min (xs.length : Int) 3)).toNat, fun j => .int ((0 : Int) + (j : Nat)), fun j => some (.bl true), rfl, by rw [List.length_range]; omega, fun j hj => ?_, ?_⟩
    · have hj2 := List.mem_range.mp hj
      dsimp only
      rw [show (0 : Int) + (j : Nat) = ((j : Nat) : Int) by omega]
      exact wg_name (wt_true ⟨fun _ => we_callW (ns := xs) (t := j) hl (by omega) (wa_cons (we_var rfl (wa_cons (we_var rfl (wa_nil rfl))))) ⟨rfl, rfl⟩, nofun⟩)
    · rw [fm_map, show ∀ m, (List.range m).map (fun _ => D.bl true) = ((List.range m).map fun _ => true).map D.bl from fun m => by rw [List.map_map]; rfl]
      refine wa_nil (cs_all ?_)
      rw [show ∀ m, ((List.range m).map fun _ => true).all id = true from fun m => by simp]
      exact h
end
end T25

namespace T25
open PySem PySem.Spec PyProof.Rows L2 Z
def kStr : Value → Option Str
  | .str x _ => some x
  | _ => none
def WordsK2 (es : Array DictEntry) (ws : List Str) : Prop := es.toList.map (fun e => kStr e.key) = ws.map some ∧ es.toList.any (·.refKey) = false
theorem find_words (z : Str) : ∀ (l : List DictEntry) (ws : List Str), l.map (fun e => kStr e.key) = ws.map some → (l.find? (·.key.isStr z)).isSome = decide (z ∈ ws)
  | [], [], _ => by simp
  | [], _ :: _, h => by simp at h
  | _ :: _, [], h => by simp at h
  | e :: l, x :: ws, h => by
    rw [List.map_cons, List.map_cons] at h
    obtain ⟨h1, h2⟩ := List.cons.inj h
    have ih := find_words z l ws h2
    obtain ⟨t, ek⟩ : ∃ t, e.key = .str x t := by
      cases hk : e.key with
      | str y t => rw [hk] at h1; cases h1; exact ⟨t, rfl⟩
      | _ => rw [hk] at h1; cases h1
    by_cases c : x = z
    · subst c
      rw [List.find?_cons_of_pos (by rw [ek]; simp [Value.isStr])]
      simp
    · have nz : ¬ z = x := fun q => c q.symm
      rw [List.find?_cons_of_neg (by rw [ek]; simp [Value.isStr, c]), ih]
      simp [nz]
theorem wordsK_of {K : PySem.W.Frag} {w : World} {W : Addr} {es : Array DictEntry} {n : Nat} {ws : List Str} (D : KDict K w W es n) (k : WordsK2 es ws) : WordsK K W ws := fun z => by
  unfold PySem.W.nsIn
  rw [D.at_]
  have := find_words z es.toList ws k.1
  cases e : es.toList.find? (·.key.isStr z) with
  | some d =>
    rw [e] at this
    exact ⟨some d.val, by simp only [e], this⟩
  | none =>
    rw [e] at this
    exact ⟨none, by simp only [e, k.2]; rfl, this⟩
theorem bt_of {K : PySem.W.Frag} {f : Addr} {fd : FuncData} (F : Fun K "law" "law" s_law f fd) (s : Shared) (v : Value) : BindsTo s fd ⟨[v], []⟩ [("script", v)] := by
  obtain ⟨oc, od, kV, doc, pm, an, cdv, ct, osl, rfl, lk, hcd⟩ := F.ex
  exact .of_eq rfl
theorem kit_self {K : PySem.W.Frag} {C : Addr} : PySem.W.kitOne K (.ref C) (.ref C) = some true := by
  unfold PySem.W.kitOne
  exact if_pos (by first | exact beq_self_eq_true _ | simp | (show (C == C) = true; simp))
theorem vals_rev : ∀ {xs : List V} {us : List Value}, Vals xs us → Vals xs.reverse us.reverse
  | _, _, .nil => .nil
  | _, _, .cons h t => by rw [List.reverse_cons, List.reverse_cons]; exact Paired.snoc (vals_rev t) h
theorem kb_is_linked {K : PySem.W.Frag} {f : Addr} {fd : FuncData} (F : Fun K "is_linked" "is_linked" s_is_linked f fd) : KBinds K fd ["hall", "event", "place", "pour"] ["pour", "place", "event", "hall"] (fun us zs => us ++ zs.reverse) (fun us zs => us ++ zs.reverse) := by
  obtain ⟨oc, od, kV, doc, pm, an, cdv, ct, osl, rfl, lk, hcd⟩ := F.ex
  refine ⟨fun s us ws _ hl => ?_, fun {vs us zs ws} h1 h2 => ?_⟩
  · have hl : us.length + ws.length = 4 := by rw [List.length_append, List.length_reverse] at hl; exact hl
    rcases us with _ | ⟨a, _ | ⟨b, _ | ⟨c, _ | ⟨d, _ | ⟨e, r⟩⟩⟩⟩⟩ <;> rcases ws with _ | ⟨a', _ | ⟨b', _ | ⟨c', _ | ⟨d', _ | ⟨e', r'⟩⟩⟩⟩⟩
    all_goals first | (exfalso; simp at hl; done) | (exfalso; simp at hl; omega) | exact .of_eq rfl
  · exact Vals.append h1 (vals_rev h2)
theorem perm_vals : ∀ {vs : List V} {us : List Value} {zs : List V} {ws : List Value}, Vals vs us → Vals zs ws → Vals (permW vs zs) (permW us ws) := fun {vs us zs ws} h1 h2 => by
  have l1 := h1.length
  have l2 := h2.length
  rcases vs with _ | ⟨v, vr⟩ <;> rcases us with _ | ⟨u, ur⟩
  · rcases zs with _ | ⟨a, _ | ⟨b, _ | ⟨c, _ | ⟨d, _ | ⟨e, r⟩⟩⟩⟩⟩ <;> rcases ws with _ | ⟨a', _ | ⟨b', _ | ⟨c', _ | ⟨d', _ | ⟨e', r'⟩⟩⟩⟩⟩
    all_goals first | exact .nil | (exfalso; simp at l2; done) | (exfalso; simp at l2; omega) | skip
    cases h2 with | cons r1 h2 => cases h2 with | cons r2 h2 => cases h2 with | cons r3 h2 => cases h2 with | cons r4 h2 =>
    exact .cons r3 (.cons r4 (.cons r1 (.cons r2 .nil)))
  · simp at l1
  · simp at l1
  · exact .nil
theorem kb_way {K : PySem.W.Frag} {f : Addr} {fd : FuncData} (F : Fun K "way" "way" s_way f fd) : KBinds K fd ["hall", "event", "place", "pour"] ["place", "pour", "hall", "event"] permW permW := by
  obtain ⟨oc, od, kV, doc, pm, an, cdv, ct, osl, rfl, lk, hcd⟩ := F.ex
  refine ⟨fun s us ws _ hl => ?_, fun {vs us zs ws} h1 h2 => perm_vals h1 h2⟩
  rcases us with _ | ⟨u, ur⟩
  · rcases ws with _ | ⟨a', _ | ⟨b', _ | ⟨c', _ | ⟨d', _ | ⟨e', r'⟩⟩⟩⟩⟩
    all_goals first | (exfalso; simp [permW] at hl; done) | exact .of_eq rfl
  · exfalso; simp [permW] at hl
def kInt : Value → Option Int
  | .int x _ => some x
  | _ => none
def IntsK2 (es : Array DictEntry) (ws : List (Str × Int)) : Prop := es.toList.map (fun e => (kStr e.key, kInt e.val)) = ws.map (fun p => (some p.1, some p.2)) ∧ (ws.map (·.1)).Nodup
theorem find_ints (z : Str) (i : Int) : ∀ (l : List DictEntry) (ws : List (Str × Int)), l.map (fun e => (kStr e.key, kInt e.val)) = ws.map (fun p => (some p.1, some p.2)) → (ws.map (·.1)).Nodup → (z, i) ∈ ws → ∃ d t, l.find? (·.key.isStr z) = some d ∧ d.val = .int i t
  | [], [], _, _, m => by cases m
  | [], _ :: _, h, _, _ => by simp at h
  | _ :: _, [], h, _, _ => by simp at h
  | e :: l, x :: ws, h, nd, m => by
    rw [List.map_cons, List.map_cons] at h
    obtain ⟨h1, h2⟩ := List.cons.inj h
    obtain ⟨k1, k2⟩ := Prod.mk.inj h1
    obtain ⟨t, ek⟩ : ∃ t, e.key = .str x.1 t := by
      cases hk : e.key with
      | str y t => rw [hk] at k1; cases k1; exact ⟨t, rfl⟩
      | _ => rw [hk] at k1; cases k1
    obtain ⟨t2, ev⟩ : ∃ t, e.val = .int x.2 t := by
      cases hk : e.val with
      | int y t => rw [hk] at k2; cases k2; exact ⟨t, rfl⟩
      | _ => rw [hk] at k2; cases k2
    rw [List.map_cons] at nd
    obtain ⟨n1, n2⟩ := List.nodup_cons.mp nd
    rcases List.mem_cons.mp m with rfl | m
    · exact ⟨e, t2, by rw [List.find?_cons_of_pos (by rw [ek]; simp [Value.isStr])], ev⟩
    · have ne : x.1 ≠ z := fun q => n1 (by rw [q]; exact List.mem_map_of_mem (f := (·.1)) m)
      rw [List.find?_cons_of_neg (by rw [ek]; simp [Value.isStr, ne])]
      exact find_ints z i l ws h2 n2 m
theorem intsK_of {K : PySem.W.Frag} {w : World} {W : Addr} {es : Array DictEntry} {n : Nat} {ws : List (Str × Int)} (D : KDict K w W es n) (k : IntsK2 es ws) : ∀ p ∈ ws, KDct K w W p.1 (.int p.2) := fun p hp => by
  obtain ⟨d, t, h1, h2⟩ := find_ints p.1 p.2 es.toList ws k.1 k.2 hp
  refine ⟨es, n, d.val, D.at_, D.lit, ?_, ⟨t, h2⟩⟩
  unfold PySem.W.nsIn
  rw [D.at_]
  simp only [h1]
theorem walk {l : PySem.W.OpenLaw} {q : Program} {loose : List Str} {XP : (Str → Option Value) → Heap → Prop} {YP : World → Heap → Prop} {d : DefRec} {K : Params → PySem.W.Frag} (hn : l.most = some 63) (hdf : d.params.defaults = [])
    (hY : ∀ (w : World) (h : Heap), YP w h → (K w.params).In h)
    (F : ∀ (w : World) (mg : Str → Option Value) (fa : Addr) (h : Heap), (K w.params).In h → h.Ns mainGlobals mg → mg d.name = some (.ref fa) →
      ∃ fd : FuncData, (∀ (s : Shared) (u : Value), BindsTo s fd ⟨[u], []⟩ [("script", u)]) ∧ ∀ base : Heap, (K w.params).In base → base.Ns mainGlobals mg → FnOk l.prog w (K w.params) mg base CX0 12 fa fd ["script"] (spLaw (K w.params))) :
    PySem.W.WalkO q loose XP YP l.row.toRowW d [] (fun f vs => PySem.call f vs) :=
  L2.walk_of (n := 63) (k := 12) (x := "script") (CX := fun _ => CX0) (sp := fun w => spLaw (K w.params)) hn (by decide) hdf ⟨rfl, by decide, by decide⟩ hY F (fun _ _ a ns hl _ hS => ⟨a, ns, rfl, hS, hl, fun _ => rfl⟩) fun _ _ _ _ _ z => z
end T25

open PySem PySem.W PyProof.Rows
set_option maxHeartbeats 0
namespace Hd
open_top head for PySem.Challenge.rw_recallhouse_k25_ways_followed_event_by_e
end Hd
open L2 T25 Z
theorem PySem.Challenge.cw_recallhouse_k25_ways_followed_event_by_e_holds : PySem.Challenge.rw_recallhouse_k25_ways_followed_event_by_e.Holds := by
  refine Hd.head ?_
  k_fill
  refine T25.walk (l := PySem.Challenge.rw_recallhouse_k25_ways_followed_event_by_e) rfl rfl (fun w h Y => PySem.W.kIn_of Y) ?F
  case F =>
    intro w mg fa h KX G hmg
    have hC_Hall : ∃ C, mg "Hall" = some (.ref C) ∧ Cls (Hd.head.heap_39 w.params) C ∧ PySem.W.makesIn (Hd.head.heap_39 w.params) C = true ∧ PySem.W.keepIn (Hd.head.heap_39 w.params) (.ref C) = true ∧ C8.InsC (Hd.head.heap_39 w.params) C ∧ NoAttr (Hd.head.heap_39 w.params) C "held" ∧ NoAttr (Hd.head.heap_39 w.params) C "places" ∧ NoAttr (Hd.head.heap_39 w.params) C "events" ∧ NoAttr (Hd.head.heap_39 w.params) C "parts" ∧ NoAttr (Hd.head.heap_39 w.params) C "tags" ∧ (∃ f, PySem.W.findIn (Hd.head.heap_39 w.params) (.ref C) "__init__" = some (some (.ref f)) ∧ PySem.W.isFn (Hd.head.heap_39 w.params) (.ref f) = true ∧ ∃ fd, Fun (Hd.head.heap_39 w.params) "__init__" "Hall.__init__" T25.s_Hall_init f fd) := by
      refine' ⟨_, PySem.W.mg_of KX G ?a, ⟨?p1, ?p2, ?p3, ?p4⟩, ?m1, ?m2, ⟨⟨?p1b, ?p2b, ?p3b, ?p4b⟩, ?i1, ?i2, ?i3, ?i4, ?i5⟩, ?n0, ?n1, ?n2, ?n3, ?n4, ⟨_, ?fi, ?fii, _, fun_mk ?fl ?fc ?fk⟩⟩
      (case a => k_is)
      (case p1 => k_is)
      (case p2 => k_is)
      (case p3 => k_is)
      (case p4 => k_is)
      (case m1 => k_is)
      (case m2 => k_is)
      (case p1b => k_is)
      (case p2b => k_is)
      (case p3b => k_is)
      (case p4b => k_is)
      (case i1 => k_is)
      (case i2 => k_is)
      (case i3 => k_is)
      (case i4 => k_is)
      (case i5 => exact T25.kit_self)
      (case n0 => unfold L2.NoAttr; k_is)
      (case n1 => unfold L2.NoAttr; k_is)
      (case n2 => unfold L2.NoAttr; k_is)
      (case n3 => unfold L2.NoAttr; k_is)
      (case n4 => unfold L2.NoAttr; k_is)
      (case fi => k_is)
      (case fii => k_is)
      (case fl => k_is)
      (case fc => k_is)
      (case fk => k_is)
    have h_is_whole : ∃ f fd, mg "is_whole" = some (.ref f) ∧ Fun (Hd.head.heap_39 w.params) "is_whole" "is_whole" T25.s_is_whole f fd := by
      refine' ⟨_, _, PySem.W.mg_of KX G ?a, fun_mk ?l ?c ?k⟩
      (case a => k_is)
      (case l => k_is)
      (case c => k_is)
      (case k => k_is)
    have h_is_number : ∃ f fd, mg "is_number" = some (.ref f) ∧ Fun (Hd.head.heap_39 w.params) "is_number" "is_number" T25.s_is_number f fd := by
      refine' ⟨_, _, PySem.W.mg_of KX G ?a, fun_mk ?l ?c ?k⟩
      (case a => k_is)
      (case l => k_is)
      (case c => k_is)
      (case k => k_is)
    have h_are_bounds : ∃ f fd, mg "are_bounds" = some (.ref f) ∧ Fun (Hd.head.heap_39 w.params) "are_bounds" "are_bounds" T25.s_are_bounds f fd := by
      refine' ⟨_, _, PySem.W.mg_of KX G ?a, fun_mk ?l ?c ?k⟩
      (case a => k_is)
      (case l => k_is)
      (case c => k_is)
      (case k => k_is)
    have h_need_number : ∃ f fd, mg "need_number" = some (.ref f) ∧ Fun (Hd.head.heap_39 w.params) "need_number" "need_number" T25.s_need_number f fd := by
      refine' ⟨_, _, PySem.W.mg_of KX G ?a, fun_mk ?l ?c ?k⟩
      (case a => k_is)
      (case l => k_is)
      (case c => k_is)
      (case k => k_is)
    have h_is_place : ∃ f fd, mg "is_place" = some (.ref f) ∧ Fun (Hd.head.heap_39 w.params) "is_place" "is_place" T25.s_is_place f fd := by
      refine' ⟨_, _, PySem.W.mg_of KX G ?a, fun_mk ?l ?c ?k⟩
      (case a => k_is)
      (case l => k_is)
      (case c => k_is)
      (case k => k_is)
    have h_is_form : ∃ f fd, mg "is_form" = some (.ref f) ∧ Fun (Hd.head.heap_39 w.params) "is_form" "is_form" T25.s_is_form f fd := by
      refine' ⟨_, _, PySem.W.mg_of KX G ?a, fun_mk ?l ?c ?k⟩
      (case a => k_is)
      (case l => k_is)
      (case c => k_is)
      (case k => k_is)
    have h_is_doubt : ∃ f fd, mg "is_doubt" = some (.ref f) ∧ Fun (Hd.head.heap_39 w.params) "is_doubt" "is_doubt" T25.s_is_doubt f fd := by
      refine' ⟨_, _, PySem.W.mg_of KX G ?a, fun_mk ?l ?c ?k⟩
      (case a => k_is)
      (case l => k_is)
      (case c => k_is)
      (case k => k_is)
    have h_is_move : ∃ f fd, mg "is_move" = some (.ref f) ∧ Fun (Hd.head.heap_39 w.params) "is_move" "is_move" T25.s_is_move f fd := by
      refine' ⟨_, _, PySem.W.mg_of KX G ?a, fun_mk ?l ?c ?k⟩
      (case a => k_is)
      (case l => k_is)
      (case c => k_is)
      (case k => k_is)
    have h_is_event : ∃ f fd, mg "is_event" = some (.ref f) ∧ Fun (Hd.head.heap_39 w.params) "is_event" "is_event" T25.s_is_event f fd := by
      refine' ⟨_, _, PySem.W.mg_of KX G ?a, fun_mk ?l ?c ?k⟩
      (case a => k_is)
      (case l => k_is)
      (case c => k_is)
      (case k => k_is)
    have h_held_behind : ∃ f fd, mg "held_behind" = some (.ref f) ∧ Fun (Hd.head.heap_39 w.params) "held_behind" "held_behind" T25.s_held_behind f fd := by
      refine' ⟨_, _, PySem.W.mg_of KX G ?a, fun_mk ?l ?c ?k⟩
      (case a => k_is)
      (case l => k_is)
      (case c => k_is)
      (case k => k_is)
    have h_are_letters : ∃ f fd, mg "are_letters" = some (.ref f) ∧ Fun (Hd.head.heap_39 w.params) "are_letters" "are_letters" T25.s_are_letters f fd := by
      refine' ⟨_, _, PySem.W.mg_of KX G ?a, fun_mk ?l ?c ?k⟩
      (case a => k_is)
      (case l => k_is)
      (case c => k_is)
      (case k => k_is)
    have h_is_name : ∃ f fd, mg "is_name" = some (.ref f) ∧ Fun (Hd.head.heap_39 w.params) "is_name" "is_name" T25.s_is_name f fd := by
      refine' ⟨_, _, PySem.W.mg_of KX G ?a, fun_mk ?l ?c ?k⟩
      (case a => k_is)
      (case l => k_is)
      (case c => k_is)
      (case k => k_is)
    have h_is_pair : ∃ f fd, mg "is_pair" = some (.ref f) ∧ Fun (Hd.head.heap_39 w.params) "is_pair" "is_pair" T25.s_is_pair f fd := by
      refine' ⟨_, _, PySem.W.mg_of KX G ?a, fun_mk ?l ?c ?k⟩
      (case a => k_is)
      (case l => k_is)
      (case c => k_is)
      (case k => k_is)
    have h_check_places : ∃ f fd, mg "check_places" = some (.ref f) ∧ Fun (Hd.head.heap_39 w.params) "check_places" "check_places" T25.s_check_places f fd := by
      refine' ⟨_, _, PySem.W.mg_of KX G ?a, fun_mk ?l ?c ?k⟩
      (case a => k_is)
      (case l => k_is)
      (case c => k_is)
      (case k => k_is)
    have h_held_rows : ∃ f fd, mg "held_rows" = some (.ref f) ∧ Fun (Hd.head.heap_39 w.params) "held_rows" "held_rows" T25.s_held_rows f fd := by
      refine' ⟨_, _, PySem.W.mg_of KX G ?a, fun_mk ?l ?c ?k⟩
      (case a => k_is)
      (case l => k_is)
      (case c => k_is)
      (case k => k_is)
    have h_need_hall : ∃ f fd, mg "need_hall" = some (.ref f) ∧ Fun (Hd.head.heap_39 w.params) "need_hall" "need_hall" T25.s_need_hall f fd := by
      refine' ⟨_, _, PySem.W.mg_of KX G ?a, fun_mk ?l ?c ?k⟩
      (case a => k_is)
      (case l => k_is)
      (case c => k_is)
      (case k => k_is)
    have h_need_event : ∃ f fd, mg "need_event" = some (.ref f) ∧ Fun (Hd.head.heap_39 w.params) "need_event" "need_event" T25.s_need_event f fd := by
      refine' ⟨_, _, PySem.W.mg_of KX G ?a, fun_mk ?l ?c ?k⟩
      (case a => k_is)
      (case l => k_is)
      (case c => k_is)
      (case k => k_is)
    have h_need_place : ∃ f fd, mg "need_place" = some (.ref f) ∧ Fun (Hd.head.heap_39 w.params) "need_place" "need_place" T25.s_need_place f fd := by
      refine' ⟨_, _, PySem.W.mg_of KX G ?a, fun_mk ?l ?c ?k⟩
      (case a => k_is)
      (case l => k_is)
      (case c => k_is)
      (case k => k_is)
    have h_need_pour : ∃ f fd, mg "need_pour" = some (.ref f) ∧ Fun (Hd.head.heap_39 w.params) "need_pour" "need_pour" T25.s_need_pour f fd := by
      refine' ⟨_, _, PySem.W.mg_of KX G ?a, fun_mk ?l ?c ?k⟩
      (case a => k_is)
      (case l => k_is)
      (case c => k_is)
      (case k => k_is)
    have h_is_left : ∃ f fd, mg "is_left" = some (.ref f) ∧ Fun (Hd.head.heap_39 w.params) "is_left" "is_left" T25.s_is_left f fd := by
      refine' ⟨_, _, PySem.W.mg_of KX G ?a, fun_mk ?l ?c ?k⟩
      (case a => k_is)
      (case l => k_is)
      (case c => k_is)
      (case k => k_is)
    have h_ways_from : ∃ f fd, mg "ways_from" = some (.ref f) ∧ Fun (Hd.head.heap_39 w.params) "ways_from" "ways_from" T25.s_ways_from f fd := by
      refine' ⟨_, _, PySem.W.mg_of KX G ?a, fun_mk ?l ?c ?k⟩
      (case a => k_is)
      (case l => k_is)
      (case c => k_is)
      (case k => k_is)
    have h_need_link : ∃ f fd, mg "need_link" = some (.ref f) ∧ Fun (Hd.head.heap_39 w.params) "need_link" "need_link" T25.s_need_link f fd := by
      refine' ⟨_, _, PySem.W.mg_of KX G ?a, fun_mk ?l ?c ?k⟩
      (case a => k_is)
      (case l => k_is)
      (case c => k_is)
      (case k => k_is)
    have h_is_linked : ∃ f fd, mg "is_linked" = some (.ref f) ∧ Fun (Hd.head.heap_39 w.params) "is_linked" "is_linked" T25.s_is_linked f fd := by
      refine' ⟨_, _, PySem.W.mg_of KX G ?a, fun_mk ?l ?c ?k⟩
      (case a => k_is)
      (case l => k_is)
      (case c => k_is)
      (case k => k_is)
    have h_way : ∃ f fd, mg "way" = some (.ref f) ∧ Fun (Hd.head.heap_39 w.params) "way" "way" T25.s_way f fd := by
      refine' ⟨_, _, PySem.W.mg_of KX G ?a, fun_mk ?l ?c ?k⟩
      (case a => k_is)
      (case l => k_is)
      (case c => k_is)
      (case k => k_is)
    have h_law_well : ∃ f fd, mg "_law_well" = some (.ref f) ∧ Fun (Hd.head.heap_39 w.params) "_law_well" "_law_well" T25.s_law_well f fd := by
      refine' ⟨_, _, PySem.W.mg_of KX G ?a, fun_mk ?l ?c ?k⟩
      (case a => k_is)
      (case l => k_is)
      (case c => k_is)
      (case k => k_is)
    have h_law_take : ∃ f fd, mg "_law_take" = some (.ref f) ∧ Fun (Hd.head.heap_39 w.params) "_law_take" "_law_take" T25.s_law_take f fd := by
      refine' ⟨_, _, PySem.W.mg_of KX G ?a, fun_mk ?l ?c ?k⟩
      (case a => k_is)
      (case l => k_is)
      (case c => k_is)
      (case k => k_is)
    have h_law_pick : ∃ f fd, mg "_law_pick" = some (.ref f) ∧ Fun (Hd.head.heap_39 w.params) "_law_pick" "_law_pick" T25.s_law_pick f fd := by
      refine' ⟨_, _, PySem.W.mg_of KX G ?a, fun_mk ?l ?c ?k⟩
      (case a => k_is)
      (case l => k_is)
      (case c => k_is)
      (case k => k_is)
    have h_law_letters : ∃ f fd, mg "_law_letters" = some (.ref f) ∧ Fun (Hd.head.heap_39 w.params) "_law_letters" "_law_letters" T25.s_law_letters f fd := by
      refine' ⟨_, _, PySem.W.mg_of KX G ?a, fun_mk ?l ?c ?k⟩
      (case a => k_is)
      (case l => k_is)
      (case c => k_is)
      (case k => k_is)
    have h_law_same : ∃ f fd, mg "_law_same" = some (.ref f) ∧ Fun (Hd.head.heap_39 w.params) "_law_same" "_law_same" T25.s_law_same f fd := by
      refine' ⟨_, _, PySem.W.mg_of KX G ?a, fun_mk ?l ?c ?k⟩
      (case a => k_is)
      (case l => k_is)
      (case c => k_is)
      (case k => k_is)
    have h_law_name : ∃ f fd, mg "_law_name" = some (.ref f) ∧ Fun (Hd.head.heap_39 w.params) "_law_name" "_law_name" T25.s_law_name f fd := by
      refine' ⟨_, _, PySem.W.mg_of KX G ?a, fun_mk ?l ?c ?k⟩
      (case a => k_is)
      (case l => k_is)
      (case c => k_is)
      (case k => k_is)
    have h_law_places : ∃ f fd, mg "_law_places" = some (.ref f) ∧ Fun (Hd.head.heap_39 w.params) "_law_places" "_law_places" T25.s_law_places f fd := by
      refine' ⟨_, _, PySem.W.mg_of KX G ?a, fun_mk ?l ?c ?k⟩
      (case a => k_is)
      (case l => k_is)
      (case c => k_is)
      (case k => k_is)
    have h_law_bounds : ∃ f fd, mg "_law_bounds" = some (.ref f) ∧ Fun (Hd.head.heap_39 w.params) "_law_bounds" "_law_bounds" T25.s_law_bounds f fd := by
      refine' ⟨_, _, PySem.W.mg_of KX G ?a, fun_mk ?l ?c ?k⟩
      (case a => k_is)
      (case l => k_is)
      (case c => k_is)
      (case k => k_is)
    have h_law_taken : ∃ f fd, mg "_law_taken" = some (.ref f) ∧ Fun (Hd.head.heap_39 w.params) "_law_taken" "_law_taken" T25.s_law_taken f fd := by
      refine' ⟨_, _, PySem.W.mg_of KX G ?a, fun_mk ?l ?c ?k⟩
      (case a => k_is)
      (case l => k_is)
      (case c => k_is)
      (case k => k_is)
    have h_law_one_event : ∃ f fd, mg "_law_one_event" = some (.ref f) ∧ Fun (Hd.head.heap_39 w.params) "_law_one_event" "_law_one_event" T25.s_law_one_event f fd := by
      refine' ⟨_, _, PySem.W.mg_of KX G ?a, fun_mk ?l ?c ?k⟩
      (case a => k_is)
      (case l => k_is)
      (case c => k_is)
      (case k => k_is)
    have h_law_drawn : ∃ f fd, mg "_law_drawn" = some (.ref f) ∧ Fun (Hd.head.heap_39 w.params) "_law_drawn" "_law_drawn" T25.s_law_drawn f fd := by
      refine' ⟨_, _, PySem.W.mg_of KX G ?a, fun_mk ?l ?c ?k⟩
      (case a => k_is)
      (case l => k_is)
      (case c => k_is)
      (case k => k_is)
    have h_law_totals : ∃ f fd, mg "_law_totals" = some (.ref f) ∧ Fun (Hd.head.heap_39 w.params) "_law_totals" "_law_totals" T25.s_law_totals f fd := by
      refine' ⟨_, _, PySem.W.mg_of KX G ?a, fun_mk ?l ?c ?k⟩
      (case a => k_is)
      (case l => k_is)
      (case c => k_is)
      (case k => k_is)
    have h_law_follow : ∃ f fd, mg "_law_follow" = some (.ref f) ∧ Fun (Hd.head.heap_39 w.params) "_law_follow" "_law_follow" T25.s_law_follow f fd := by
      refine' ⟨_, _, PySem.W.mg_of KX G ?a, fun_mk ?l ?c ?k⟩
      (case a => k_is)
      (case l => k_is)
      (case c => k_is)
      (case k => k_is)
    have h_law_is_way : ∃ f fd, mg "_law_is_way" = some (.ref f) ∧ Fun (Hd.head.heap_39 w.params) "_law_is_way" "_law_is_way" T25.s_law_is_way f fd := by
      refine' ⟨_, _, PySem.W.mg_of KX G ?a, fun_mk ?l ?c ?k⟩
      (case a => k_is)
      (case l => k_is)
      (case c => k_is)
      (case k => k_is)
    have h_law_pours : ∃ f fd, mg "_law_pours" = some (.ref f) ∧ Fun (Hd.head.heap_39 w.params) "_law_pours" "_law_pours" T25.s_law_pours f fd := by
      refine' ⟨_, _, PySem.W.mg_of KX G ?a, fun_mk ?l ?c ?k⟩
      (case a => k_is)
      (case l => k_is)
      (case c => k_is)
      (case k => k_is)
    have h_law_asked : ∃ f fd, mg "_law_asked" = some (.ref f) ∧ Fun (Hd.head.heap_39 w.params) "_law_asked" "_law_asked" T25.s_law_asked f fd := by
      refine' ⟨_, _, PySem.W.mg_of KX G ?a, fun_mk ?l ?c ?k⟩
      (case a => k_is)
      (case l => k_is)
      (case c => k_is)
      (case k => k_is)
    have h_law_chain : ∃ f fd, mg "_law_chain" = some (.ref f) ∧ Fun (Hd.head.heap_39 w.params) "_law_chain" "_law_chain" T25.s_law_chain f fd := by
      refine' ⟨_, _, PySem.W.mg_of KX G ?a, fun_mk ?l ?c ?k⟩
      (case a => k_is)
      (case l => k_is)
      (case c => k_is)
      (case k => k_is)
    have h_law_emptied : ∃ f fd, mg "_law_emptied" = some (.ref f) ∧ Fun (Hd.head.heap_39 w.params) "_law_emptied" "_law_emptied" T25.s_law_emptied f fd := by
      refine' ⟨_, _, PySem.W.mg_of KX G ?a, fun_mk ?l ?c ?k⟩
      (case a => k_is)
      (case l => k_is)
      (case c => k_is)
      (case k => k_is)
    have h_law_round : ∃ f fd, mg "_law_round" = some (.ref f) ∧ Fun (Hd.head.heap_39 w.params) "_law_round" "_law_round" T25.s_law_round f fd := by
      refine' ⟨_, _, PySem.W.mg_of KX G ?a, fun_mk ?l ?c ?k⟩
      (case a => k_is)
      (case l => k_is)
      (case c => k_is)
      (case k => k_is)
    have h_law : ∃ f fd, mg "law" = some (.ref f) ∧ Fun (Hd.head.heap_39 w.params) "law" "law" T25.s_law f fd := by
      refine' ⟨_, _, PySem.W.mg_of KX G ?a, fun_mk ?l ?c ?k⟩
      (case a => k_is)
      (case l => k_is)
      (case c => k_is)
      (case k => k_is)
    have h_MOST_EVENTS : ∃ u, mg "MOST_EVENTS" = some u ∧ RelV (.int 40) u := by
      refine' ⟨_, PySem.W.mg_of KX G ?a, ⟨_, ?r⟩⟩
      (case a => k_is)
      (case r => rfl)
    have h_MOST_DAY : ∃ u, mg "MOST_DAY" = some u ∧ RelV (.int 999) u := by
      refine' ⟨_, PySem.W.mg_of KX G ?a, ⟨_, ?r⟩⟩
      (case a => k_is)
      (case r => rfl)
    have h_MOST_COUNT : ∃ u, mg "MOST_COUNT" = some u ∧ RelV (.int 999) u := by
      refine' ⟨_, PySem.W.mg_of KX G ?a, ⟨_, ?r⟩⟩
      (case a => k_is)
      (case r => rfl)
    have h_SIZES : ∃ W es n, mg "SIZES" = some (.ref W) ∧ KDict (Hd.head.heap_39 w.params) w W es n ∧ T25.WordsK2 es T25.l_SIZES ∧ T25.IntsK2 es T25.li_SIZES := by
      refine' ⟨_, _, _, PySem.W.mg_of KX G ?a, ⟨?l, ?s, ?o⟩, ?wk, ?ik⟩
      (case a => k_is)
      (case l => k_is)
      (case s => repeat first | exact trivial | refine ⟨⟨_, _, rfl, rfl⟩, ?_⟩)
      (case o => decide)
      (case wk => exact ⟨by rfl, by rfl⟩)
      (case ik => exact ⟨by rfl, by decide +kernel⟩)
    have h_LETTERS : ∃ u, mg "LETTERS" = some u ∧ RelV (.str "abcdefghijklmnopqrstuvwxyz") u := by
      refine' ⟨_, PySem.W.mg_of KX G ?a, ⟨_, ?r⟩⟩
      (case a => k_is)
      (case r => rfl)
    have h_LONGEST : ∃ u, mg "LONGEST" = some u ∧ RelV (.int 8) u := by
      refine' ⟨_, PySem.W.mg_of KX G ?a, ⟨_, ?r⟩⟩
      (case a => k_is)
      (case r => rfl)
    have h_WORDS : ∃ W es n, mg "WORDS" = some (.ref W) ∧ KDict (Hd.head.heap_39 w.params) w W es n ∧ T25.WordsK2 es T25.l_WORDS := by
      refine' ⟨_, _, _, PySem.W.mg_of KX G ?a, ⟨?l, ?s, ?o⟩, ?wk⟩
      (case a => k_is)
      (case l => k_is)
      (case s => repeat first | exact trivial | refine ⟨⟨_, _, rfl, rfl⟩, ?_⟩)
      (case o => decide)
      (case wk => exact ⟨by rfl, by rfl⟩)
    have h_MOST_PLACES : ∃ u, mg "MOST_PLACES" = some u ∧ RelV (.int 12) u := by
      refine' ⟨_, PySem.W.mg_of KX G ?a, ⟨_, ?r⟩⟩
      (case a => k_is)
      (case r => rfl)
    have h_MOST_LABELS : ∃ u, mg "MOST_LABELS" = some u ∧ RelV (.int 8) u := by
      refine' ⟨_, PySem.W.mg_of KX G ?a, ⟨_, ?r⟩⟩
      (case a => k_is)
      (case r => rfl)
    have h_TAKEN : ∃ W es n, mg "TAKEN" = some (.ref W) ∧ KDict (Hd.head.heap_39 w.params) w W es n ∧ T25.WordsK2 es T25.l_TAKEN ∧ T25.IntsK2 es T25.li_TAKEN := by
      refine' ⟨_, _, _, PySem.W.mg_of KX G ?a, ⟨?l, ?s, ?o⟩, ?wk, ?ik⟩
      (case a => k_is)
      (case l => k_is)
      (case s => repeat first | exact trivial | refine ⟨⟨_, _, rfl, rfl⟩, ?_⟩)
      (case o => decide)
      (case wk => exact ⟨by rfl, by rfl⟩)
      (case ik => exact ⟨by rfl, by decide +kernel⟩)
    have z_len : mg "len" = none := PySem.W.mg_none_of KX G (by k_is)
    have z_range : mg "range" = none := PySem.W.mg_none_of KX G (by k_is)
    have z_isinstance : mg "isinstance" = none := PySem.W.mg_none_of KX G (by k_is)
    have z_all : mg "all" = none := PySem.W.mg_none_of KX G (by k_is)
    have z_any : mg "any" = none := PySem.W.mg_none_of KX G (by k_is)
    have z_tuple : mg "tuple" = none := PySem.W.mg_none_of KX G (by k_is)
    have z_list : mg "list" = none := PySem.W.mg_none_of KX G (by k_is)
    have z_sorted : mg "sorted" = none := PySem.W.mg_none_of KX G (by k_is)
    have z_set : mg "set" = none := PySem.W.mg_none_of KX G (by k_is)
    have z_enumerate : mg "enumerate" = none := PySem.W.mg_none_of KX G (by k_is)
    have z_max : mg "max" = none := PySem.W.mg_none_of KX G (by k_is)
    have z_min : mg "min" = none := PySem.W.mg_none_of KX G (by k_is)
    have z_int : mg "int" = none := PySem.W.mg_none_of KX G (by k_is)
    have z_sum : mg "sum" = none := PySem.W.mg_none_of KX G (by k_is)
    have z_abs : mg "abs" = none := PySem.W.mg_none_of KX G (by k_is)
    have z_divmod : mg "divmod" = none := PySem.W.mg_none_of KX G (by k_is)
    have z_str : mg "str" = none := PySem.W.mg_none_of KX G (by k_is)
    have z_bool : mg "bool" = none := PySem.W.mg_none_of KX G (by k_is)
    have z_dict : mg "dict" = none := PySem.W.mg_none_of KX G (by k_is)
    obtain ⟨C_Hall, mC_Hall, clC_Hall, mkC_Hall, kpC_Hall, isC_Hall, n_Hall_held, n_Hall_places, n_Hall_events, n_Hall_parts, n_Hall_tags, f_Hall_init, ai_Hall, ii_Hall, d_Hall_init, F_Hall_init⟩ := hC_Hall
    obtain ⟨f_is_whole, d_is_whole, m_is_whole, F_is_whole⟩ := h_is_whole
    obtain ⟨f_is_number, d_is_number, m_is_number, F_is_number⟩ := h_is_number
    obtain ⟨f_are_bounds, d_are_bounds, m_are_bounds, F_are_bounds⟩ := h_are_bounds
    obtain ⟨f_need_number, d_need_number, m_need_number, F_need_number⟩ := h_need_number
    obtain ⟨f_is_place, d_is_place, m_is_place, F_is_place⟩ := h_is_place
    obtain ⟨f_is_form, d_is_form, m_is_form, F_is_form⟩ := h_is_form
    obtain ⟨f_is_doubt, d_is_doubt, m_is_doubt, F_is_doubt⟩ := h_is_doubt
    obtain ⟨f_is_move, d_is_move, m_is_move, F_is_move⟩ := h_is_move
    obtain ⟨f_is_event, d_is_event, m_is_event, F_is_event⟩ := h_is_event
    obtain ⟨f_held_behind, d_held_behind, m_held_behind, F_held_behind⟩ := h_held_behind
    obtain ⟨f_are_letters, d_are_letters, m_are_letters, F_are_letters⟩ := h_are_letters
    obtain ⟨f_is_name, d_is_name, m_is_name, F_is_name⟩ := h_is_name
    obtain ⟨f_is_pair, d_is_pair, m_is_pair, F_is_pair⟩ := h_is_pair
    obtain ⟨f_check_places, d_check_places, m_check_places, F_check_places⟩ := h_check_places
    obtain ⟨f_held_rows, d_held_rows, m_held_rows, F_held_rows⟩ := h_held_rows
    obtain ⟨f_need_hall, d_need_hall, m_need_hall, F_need_hall⟩ := h_need_hall
    obtain ⟨f_need_event, d_need_event, m_need_event, F_need_event⟩ := h_need_event
    obtain ⟨f_need_place, d_need_place, m_need_place, F_need_place⟩ := h_need_place
    obtain ⟨f_need_pour, d_need_pour, m_need_pour, F_need_pour⟩ := h_need_pour
    obtain ⟨f_is_left, d_is_left, m_is_left, F_is_left⟩ := h_is_left
    obtain ⟨f_ways_from, d_ways_from, m_ways_from, F_ways_from⟩ := h_ways_from
    obtain ⟨f_need_link, d_need_link, m_need_link, F_need_link⟩ := h_need_link
    obtain ⟨f_is_linked, d_is_linked, m_is_linked, F_is_linked⟩ := h_is_linked
    obtain ⟨f_way, d_way, m_way, F_way⟩ := h_way
    obtain ⟨f_law_well, d_law_well, m_law_well, F_law_well⟩ := h_law_well
    obtain ⟨f_law_take, d_law_take, m_law_take, F_law_take⟩ := h_law_take
    obtain ⟨f_law_pick, d_law_pick, m_law_pick, F_law_pick⟩ := h_law_pick
    obtain ⟨f_law_letters, d_law_letters, m_law_letters, F_law_letters⟩ := h_law_letters
    obtain ⟨f_law_same, d_law_same, m_law_same, F_law_same⟩ := h_law_same
    obtain ⟨f_law_name, d_law_name, m_law_name, F_law_name⟩ := h_law_name
    obtain ⟨f_law_places, d_law_places, m_law_places, F_law_places⟩ := h_law_places
    obtain ⟨f_law_bounds, d_law_bounds, m_law_bounds, F_law_bounds⟩ := h_law_bounds
    obtain ⟨f_law_taken, d_law_taken, m_law_taken, F_law_taken⟩ := h_law_taken
    obtain ⟨f_law_one_event, d_law_one_event, m_law_one_event, F_law_one_event⟩ := h_law_one_event
    obtain ⟨f_law_drawn, d_law_drawn, m_law_drawn, F_law_drawn⟩ := h_law_drawn
    obtain ⟨f_law_totals, d_law_totals, m_law_totals, F_law_totals⟩ := h_law_totals
    obtain ⟨f_law_follow, d_law_follow, m_law_follow, F_law_follow⟩ := h_law_follow
    obtain ⟨f_law_is_way, d_law_is_way, m_law_is_way, F_law_is_way⟩ := h_law_is_way
    obtain ⟨f_law_pours, d_law_pours, m_law_pours, F_law_pours⟩ := h_law_pours
    obtain ⟨f_law_asked, d_law_asked, m_law_asked, F_law_asked⟩ := h_law_asked
    obtain ⟨f_law_chain, d_law_chain, m_law_chain, F_law_chain⟩ := h_law_chain
    obtain ⟨f_law_emptied, d_law_emptied, m_law_emptied, F_law_emptied⟩ := h_law_emptied
    obtain ⟨f_law_round, d_law_round, m_law_round, F_law_round⟩ := h_law_round
    obtain ⟨f_law, d_law, m_law, F_law⟩ := h_law
    obtain ⟨c_MOST_EVENTS, e_MOST_EVENTS, r_MOST_EVENTS⟩ := h_MOST_EVENTS
    obtain ⟨c_MOST_DAY, e_MOST_DAY, r_MOST_DAY⟩ := h_MOST_DAY
    obtain ⟨c_MOST_COUNT, e_MOST_COUNT, r_MOST_COUNT⟩ := h_MOST_COUNT
    obtain ⟨W_SIZES, es_SIZES, n_SIZES, c_SIZES, k_SIZES, wk_SIZES, ik_SIZES⟩ := h_SIZES
    obtain ⟨c_LETTERS, e_LETTERS, r_LETTERS⟩ := h_LETTERS
    obtain ⟨c_LONGEST, e_LONGEST, r_LONGEST⟩ := h_LONGEST
    obtain ⟨W_WORDS, es_WORDS, n_WORDS, c_WORDS, k_WORDS, wk_WORDS⟩ := h_WORDS
    obtain ⟨c_MOST_PLACES, e_MOST_PLACES, r_MOST_PLACES⟩ := h_MOST_PLACES
    obtain ⟨c_MOST_LABELS, e_MOST_LABELS, r_MOST_LABELS⟩ := h_MOST_LABELS
    obtain ⟨W_TAKEN, es_TAKEN, n_TAKEN, c_TAKEN, k_TAKEN, wk_TAKEN, ik_TAKEN⟩ := h_TAKEN
    have e_law := hmg.symm.trans m_law
    cases e_law
    have b_is_whole := F_is_whole.binds (ps := ["value"]) fun _ _ _ _ _ _ us hl => match us, hl with | [_], _ => rfl
    have b_is_number := F_is_number.binds (ps := ["value", "low", "high"]) fun _ _ _ _ _ _ us hl => match us, hl with | [_, _, _], _ => rfl
    have b_are_bounds := F_are_bounds.binds (ps := ["least", "most", "top"]) fun _ _ _ _ _ _ us hl => match us, hl with | [_, _, _], _ => rfl
    have b_need_number := F_need_number.binds (ps := ["value", "low", "high"]) fun _ _ _ _ _ _ us hl => match us, hl with | [_, _, _], _ => rfl
    have b_is_place := F_is_place.binds (ps := ["held", "value"]) fun _ _ _ _ _ _ us hl => match us, hl with | [_, _], _ => rfl
    have b_is_form := F_is_form.binds (ps := ["value"]) fun _ _ _ _ _ _ us hl => match us, hl with | [_], _ => rfl
    have b_is_doubt := F_is_doubt.binds (ps := ["events", "value"]) fun _ _ _ _ _ _ us hl => match us, hl with | [_, _], _ => rfl
    have b_is_move := F_is_move.binds (ps := ["held", "value"]) fun _ _ _ _ _ _ us hl => match us, hl with | [_, _], _ => rfl
    have b_is_event := F_is_event.binds (ps := ["held", "events", "value"]) fun _ _ _ _ _ _ us hl => match us, hl with | [_, _, _], _ => rfl
    have b_held_behind := F_held_behind.binds (ps := ["held", "event"]) fun _ _ _ _ _ _ us hl => match us, hl with | [_, _], _ => rfl
    have b_are_letters := F_are_letters.binds (ps := ["value"]) fun _ _ _ _ _ _ us hl => match us, hl with | [_], _ => rfl
    have b_is_name := F_is_name.binds (ps := ["value"]) fun _ _ _ _ _ _ us hl => match us, hl with | [_], _ => rfl
    have b_is_pair := F_is_pair.binds (ps := ["value"]) fun _ _ _ _ _ _ us hl => match us, hl with | [_], _ => rfl
    have b_check_places := F_check_places.binds (ps := ["places"]) fun _ _ _ _ _ _ us hl => match us, hl with | [_], _ => rfl
    have b_held_rows := F_held_rows.binds (ps := ["places", "events"]) fun _ _ _ _ _ _ us hl => match us, hl with | [_, _], _ => rfl
    have b_need_hall := F_need_hall.binds (ps := ["value"]) fun _ _ _ _ _ _ us hl => match us, hl with | [_], _ => rfl
    have b_need_event := F_need_event.binds (ps := ["hall", "event"]) fun _ _ _ _ _ _ us hl => match us, hl with | [_, _], _ => rfl
    have b_need_place := F_need_place.binds (ps := ["hall", "place"]) fun _ _ _ _ _ _ us hl => match us, hl with | [_, _], _ => rfl
    have b_need_pour := F_need_pour.binds (ps := ["hall", "pour"]) fun _ _ _ _ _ _ us hl => match us, hl with | [_, _], _ => rfl
    have b_is_left := F_is_left.binds (ps := ["hall", "index", "place"]) fun _ _ _ _ _ _ us hl => match us, hl with | [_, _, _], _ => rfl
    have b_ways_from := F_ways_from.binds (ps := ["hall", "pour", "event"]) fun _ _ _ _ _ _ us hl => match us, hl with | [_, _, _], _ => rfl
    have b_need_link := F_need_link.binds (ps := ["hall", "event", "place", "pour"]) fun _ _ _ _ _ _ us hl => match us, hl with | [_, _, _, _], _ => rfl
    have b_is_linked := F_is_linked.binds (ps := ["hall", "event", "place", "pour"]) fun _ _ _ _ _ _ us hl => match us, hl with | [_, _, _, _], _ => rfl
    have b_way := F_way.binds (ps := ["hall", "event", "place", "pour"]) fun _ _ _ _ _ _ us hl => match us, hl with | [_, _, _, _], _ => rfl
    have b_law_well := F_law_well.binds (ps := ["script", "turn"]) fun _ _ _ _ _ _ us hl => match us, hl with | [_, _], _ => rfl
    have b_law_take := F_law_take.binds (ps := ["well", "many"]) fun _ _ _ _ _ _ us hl => match us, hl with | [_, _], _ => rfl
    have b_law_pick := F_law_pick.binds (ps := ["well", "some"]) fun _ _ _ _ _ _ us hl => match us, hl with | [_, _], _ => rfl
    have b_law_letters := F_law_letters.binds (ps := ["well", "many"]) fun _ _ _ _ _ _ us hl => match us, hl with | [_, _], _ => rfl
    have b_law_same := F_law_same.binds (ps := ["told", "due"]) fun _ _ _ _ _ _ us hl => match us, hl with | [_, _], _ => rfl
    have b_law_name := F_law_name.binds (ps := ["well", "taken"]) fun _ _ _ _ _ _ us hl => match us, hl with | [_, _], _ => rfl
    have b_law_places := F_law_places.binds (ps := ["well", "many", "labels"]) fun _ _ _ _ _ _ us hl => match us, hl with | [_, _, _], _ => rfl
    have b_law_bounds := F_law_bounds.binds (ps := ["well", "number", "most"]) fun _ _ _ _ _ _ us hl => match us, hl with | [_, _, _], _ => rfl
    have b_law_taken := F_law_taken.binds (ps := ["well", "total", "bad"]) fun _ _ _ _ _ _ us hl => match us, hl with | [_, _, _], _ => rfl
    have b_law_one_event := F_law_one_event.binds (ps := ["well", "names", "totals", "bads", "events", "day", "most", "news"]) fun _ _ _ _ _ _ us hl => match us, hl with | [_, _, _, _, _, _, _, _], _ => rfl
    have b_law_drawn := F_law_drawn.binds (ps := ["well", "places", "many", "most", "news"]) fun _ _ _ _ _ _ us hl => match us, hl with | [_, _, _, _, _], _ => rfl
    have b_law_totals := F_law_totals.binds (ps := ["places", "events"]) fun _ _ _ _ _ _ us hl => match us, hl with | [_, _], _ => rfl
    have b_law_follow := F_law_follow.binds (ps := ["events", "totals", "pour", "event"]) fun _ _ _ _ _ _ us hl => match us, hl with | [_, _, _, _], _ => rfl
    have b_law_is_way := F_law_is_way.binds (ps := ["events", "totals", "value", "event", "name", "pour"]) fun _ _ _ _ _ _ us hl => match us, hl with | [_, _, _, _, _, _], _ => rfl
    have b_law_pours := F_law_pours.binds (ps := ["events"]) fun _ _ _ _ _ _ us hl => match us, hl with | [_], _ => rfl
    have b_law_asked := F_law_asked.binds (ps := ["well", "places", "events", "many"]) fun _ _ _ _ _ _ us hl => match us, hl with | [_, _, _, _], _ => rfl
    have b_law_chain := F_law_chain.binds (ps := ["well"]) fun _ _ _ _ _ _ us hl => match us, hl with | [_], _ => rfl
    have b_law_emptied := F_law_emptied.binds (ps := ["well"]) fun _ _ _ _ _ _ us hl => match us, hl with | [_], _ => rfl
    have b_law_round := F_law_round.binds (ps := ["well"]) fun _ _ _ _ _ _ us hl => match us, hl with | [_], _ => rfl
    have b_law := F_law.binds (ps := ["script"]) fun _ _ _ _ _ _ us hl => match us, hl with | [_], _ => rfl
    have b_Hall_init := F_Hall_init.binds (ps := ["self", "places", "events"]) fun _ _ _ _ _ _ us hl => match us, hl with | [_, _, _], _ => rfl
    have kb_is_linked : KBinds (Hd.head.heap_39 w.params) d_is_linked ["hall", "event", "place", "pour"] ["pour", "place", "event", "hall"] (fun us zs => us ++ zs.reverse) (fun us zs => us ++ zs.reverse) := T25.kb_is_linked F_is_linked
    have kb_way : KBinds (Hd.head.heap_39 w.params) d_way ["hall", "event", "place", "pour"] ["place", "pour", "hall", "event"] T25.permW T25.permW := T25.kb_way F_way
    refine ⟨d_law, fun s v => ?bt, fun base _ _ => T25.ok_law (A := ⟨
      f_is_whole, d_is_whole, f_is_number, d_is_number, f_are_bounds, d_are_bounds, f_need_number, d_need_number, f_is_place, d_is_place, f_is_form, d_is_form, f_is_doubt, d_is_doubt, f_is_move, d_is_move, f_is_event, d_is_event, f_held_behind, d_held_behind, f_are_letters, d_are_letters, f_is_name, d_is_name, f_is_pair, d_is_pair, f_check_places, d_check_places, f_held_rows, d_held_rows, f_need_hall, d_need_hall, f_need_event, d_need_event, f_need_place, d_need_place, f_need_pour, d_need_pour, f_is_left, d_is_left, f_ways_from, d_ways_from, f_need_link, d_need_link, f_is_linked, d_is_linked, f_way, d_way, f_law_well, d_law_well, f_law_take, d_law_take, f_law_pick, d_law_pick, f_law_letters, d_law_letters, f_law_same, d_law_same, f_law_name, d_law_name, f_law_places, d_law_places, f_law_bounds, d_law_bounds, f_law_taken, d_law_taken, f_law_one_event, d_law_one_event, f_law_drawn, d_law_drawn, f_law_totals, d_law_totals, f_law_follow, d_law_follow, f_law_is_way, d_law_is_way, f_law_pours, d_law_pours, f_law_asked, d_law_asked, f_law_chain, d_law_chain, f_law_emptied, d_law_emptied, f_law_round, d_law_round, fa, d_law, f_Hall_init, d_Hall_init, c_MOST_EVENTS, c_MOST_DAY, c_MOST_COUNT, W_SIZES, es_SIZES, n_SIZES, c_LETTERS, c_LONGEST, W_WORDS, es_WORDS, n_WORDS, c_MOST_PLACES, c_MOST_LABELS, W_TAKEN, es_TAKEN, n_TAKEN, C_Hall⟩) ⟨
      F_is_whole, b_is_whole, m_is_whole, F_is_number, b_is_number, m_is_number, F_are_bounds, b_are_bounds, m_are_bounds, F_need_number, b_need_number, m_need_number, F_is_place, b_is_place, m_is_place, F_is_form, b_is_form, m_is_form, F_is_doubt, b_is_doubt, m_is_doubt, F_is_move, b_is_move, m_is_move, F_is_event, b_is_event, m_is_event, F_held_behind, b_held_behind, m_held_behind, F_are_letters, b_are_letters, m_are_letters, F_is_name, b_is_name, m_is_name, F_is_pair, b_is_pair, m_is_pair, F_check_places, b_check_places, m_check_places, F_held_rows, b_held_rows, m_held_rows, F_need_hall, b_need_hall, m_need_hall, F_need_event, b_need_event, m_need_event, F_need_place, b_need_place, m_need_place, F_need_pour, b_need_pour, m_need_pour, F_is_left, b_is_left, m_is_left, F_ways_from, b_ways_from, m_ways_from, F_need_link, b_need_link, m_need_link, F_is_linked, b_is_linked, m_is_linked, F_way, b_way, m_way, F_law_well, b_law_well, m_law_well, F_law_take, b_law_take, m_law_take, F_law_pick, b_law_pick, m_law_pick, F_law_letters, b_law_letters, m_law_letters, F_law_same, b_law_same, m_law_same, F_law_name, b_law_name, m_law_name, F_law_places, b_law_places, m_law_places, F_law_bounds, b_law_bounds, m_law_bounds, F_law_taken, b_law_taken, m_law_taken, F_law_one_event, b_law_one_event, m_law_one_event, F_law_drawn, b_law_drawn, m_law_drawn, F_law_totals, b_law_totals, m_law_totals, F_law_follow, b_law_follow, m_law_follow, F_law_is_way, b_law_is_way, m_law_is_way, F_law_pours, b_law_pours, m_law_pours, F_law_asked, b_law_asked, m_law_asked, F_law_chain, b_law_chain, m_law_chain, F_law_emptied, b_law_emptied, m_law_emptied, F_law_round, b_law_round, m_law_round, F_law, b_law, m_law, F_Hall_init, b_Hall_init, z_len, z_range, z_isinstance, z_all, z_any, z_tuple, z_list, z_sorted, z_set, z_enumerate, z_max, z_min, z_int, z_sum, z_abs, z_divmod, z_str, z_bool, z_dict, e_MOST_EVENTS, r_MOST_EVENTS, e_MOST_DAY, r_MOST_DAY, e_MOST_COUNT, r_MOST_COUNT, c_SIZES, k_SIZES, T25.wordsK_of k_SIZES wk_SIZES, e_LETTERS, r_LETTERS, e_LONGEST, r_LONGEST, c_WORDS, k_WORDS, T25.wordsK_of k_WORDS wk_WORDS, e_MOST_PLACES, r_MOST_PLACES, e_MOST_LABELS, r_MOST_LABELS, c_TAKEN, k_TAKEN, T25.wordsK_of k_TAKEN wk_TAKEN, mC_Hall, clC_Hall, isC_Hall, ⟨mkC_Hall, ai_Hall, ii_Hall, kpC_Hall⟩, n_Hall_held, n_Hall_places, n_Hall_events, n_Hall_parts, n_Hall_tags, kb_is_linked, kb_way, T25.intsK_of k_SIZES ik_SIZES, T25.intsK_of k_TAKEN ik_TAKEN⟩⟩
    case bt => exact T25.bt_of F_law s v
