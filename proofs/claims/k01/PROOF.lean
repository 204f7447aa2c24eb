import PyProof.Rows.All
import Wide.All
import OpenK.AllK
import Wide.FinOn
import HandS.ForMost
import HandS.ForExc
import HandS.IsInst
import HandS.Wide
import HandS.Defaults
import HandS.Walk
import HandS.HeadHook2
import HandS.ExcField
import HandS.TryMany
import HandS.Property
import HandS.Star
import HandS.MakeKw
import HandS.MakeKwOnly
import HandS.ClsMeth
import HandS.Deep
import HandS.TupAny
import HandS.More
import HandS.Lambda
import HandS.Zip
import HandS.HeadEnd
import HandS.Head2
import KE.KExcSuper
import KE.KSuper
import HandS.ExcInit
import KE.KExcIs
import PySem.Challenge.RW_cardsapart_k01_errors_by_themselves
set_option Elab.async false
set_option linter.all false
set_option maxRecDepth 100000
set_option maxHeartbeats 4000000
namespace L2.Dl
open PySem PySem.Spec PyProof.Rows

/-! ### texts -/
theorem okS_iff {x : Str} : PyData.strOk x = true ↔ ∀ c ∈ x.cps.toList, c < 0x110000 := by
  unfold PyData.strOk
  rw [Array.all_eq_true']
  simp
theorem okS_app {x y : Str} (hx : PyData.strOk x = true) (hy : PyData.strOk y = true) : PyData.strOk (x ++ y) = true := by
  rw [okS_iff] at *
  intro c hc
  have : c ∈ x.cps.toList ++ y.cps.toList := by
    have e : (x ++ y).cps.toList = x.cps.toList ++ y.cps.toList := by show (x.cps ++ y.cps).toList = _; simp
    rw [← e]; exact hc
  rcases List.mem_append.mp this with h | h
  · exact hx c h
  · exact hy c h
theorem okS_one {x : Str} {c : Nat} (hx : PyData.strOk x = true) (h : c ∈ x.cps.toList) : PyData.strOk ⟨#[c]⟩ = true := by
  rw [okS_iff] at *
  intro d hd
  simp at hd
  subst hd
  exact hx d h
theorem okS_sub {x : Str} {l : List Nat} (hx : PyData.strOk x = true) (h : ∀ c ∈ l, c ∈ x.cps.toList) : PyData.strOk ⟨l.toArray⟩ = true := by
  rw [okS_iff] at *
  intro d hd
  exact hx d (h d (by simpa using hd))

/-! ### data -/
inductive D where
  | non | bl (b : Bool) | int (i : Int) | str (x : Str) | ty (n : String)
  | lst (xs : List D) | tup (xs : List D) | obj (C : Str) (fs : List (Str × D)) | exn (C : Str) (fs : List (Str × D)) | dK (kvs : List (Key × D)) | dT (kvs : List (List Key × D)) | ref (a : Addr) | glo (x : Str) | scr (ns : List Int)
/-- a thing that may change -/
inductive MO where
  | lst (xs : List D) | obj (C : Str) (fs : List (Str × D)) | dK (kvs : List (Key × D)) | dT (kvs : List (List Key × D)) | bag
abbrev MM := List (Addr × MO)
abbrev keys (M : MM) : List Addr := M.map (·.1)
/-- .. and what lies hidden (a list that a comprehension fills) -/
abbrev ak (F : List Addr) (M : MM) : List Addr := keys M ++ F

def KT (K : PySem.W.Frag) (a : Addr) (xs : List V) : Prop := ∃ (o : Obj) (its : Array Value) (n : Nat), K.lookup a = some o ∧ o.cls = .type "tuple" ∧ o.data = .seq its n ∧ its.size ≤ sizeLine ∧ Vals xs its.toList
/-- the script -/
def BS (K : PySem.W.Frag) (B : List Addr) (H : Hp) (a : Addr) (xs : List V) : Prop := (a ∉ B ∧ Rd H a (.lst xs)) ∨ ∃ (o : Obj) (its : Array Value) (n : Nat), K.lookup a = some o ∧ o.cls = .type "list" ∧ o.dict = none ∧ o.data = .seq its n ∧ its.size ≤ sizeLine ∧ Vals xs its.toList
theorem BS.sq {K : PySem.W.Frag} {B : List Addr} {H : Hp} {a : Addr} {xs : List V} (h : BS K B H a xs) : SqL K H a xs := by
  rcases h with h | h
  · exact .inl h.2
  · exact .inr h
/-- a list that stands still -/
def BL (B : List Addr) (H : Hp) (a : Addr) (xs : List V) : Prop := a ∉ B ∧ H a = some (.lst xs)
def BT (K : PySem.W.Frag) (B : List Addr) (H : Hp) (a : Addr) (xs : List V) : Prop := (a ∉ B ∧ H a = some (.tup xs)) ∨ KT K a xs
theorem BL.sq {K : PySem.W.Frag} {B : List Addr} {H : Hp} {a : Addr} {xs : List V} (h : BL B H a xs) : SqL K H a xs := .inl (.inl h.2)
theorem BT.sq {K : PySem.W.Frag} {B : List Addr} {H : Hp} {a : Addr} {xs : List V} (h : BT K B H a xs) : SqT K H a xs := by
  rcases h with h | h
  · exact .inl (.inl h.2)
  · exact .inr h

mutual
inductive Rep (K : PySem.W.Frag) (B : List Addr) (H : Hp) : V → D → Prop
  | non : Rep K B H .non .non
  | bl (b : Bool) : Rep K B H (.bl b) (.bl b)
  | int (i : Int) : Rep K B H (.int i) (.int i)
  | str (x : Str) : PyData.strOk x = true → Rep K B H (.str x) (.str x)
  | ty (n : String) : Rep K B H (.ty n) (.ty n)
  | lst {a : Addr} {xs : List V} {ds : List D} : BL B H a xs → RepA K B H xs ds → Rep K B H (.ref a) (.lst ds)
  | tup {a : Addr} {xs : List V} {ds : List D} : BT K B H a xs → RepA K B H xs ds → Rep K B H (.ref a) (.tup ds)
  | obj {a dx : Addr} {C : Str} {vs : List (Str × V)} {fs : List (Str × D)} : a ∉ B → H a = some (.ins (He.ga K C) dx vs) → RepF K B H Str vs fs → Rep K B H (.ref a) (.obj C fs)
  | exn {a d : Addr} {C : Str} {oe : Obj} {vs : List (Str × V)} {fs : List (Str × D)} : a ∉ B → H a = some (.frz oe (.own a)) → Zc (.ref (He.ga K C)) (some d) oe → (∃ zs, oe.data = .fields zs) → d ∉ B → H d = some (.xd vs) → RepF K B H Str vs fs → Rep K B H (.ref a) (.exn C fs)
  | dK {a : Addr} {vs : List (Key × V)} {fs : List (Key × D)} : a ∉ B → H a = some (.dK vs) → RepF K B H Key vs fs → Rep K B H (.ref a) (.dK fs)
  | dT {a : Addr} {vs : List (List Key × V)} {fs : List (List Key × D)} : a ∉ B → H a = some (.dT vs) → RepF K B H (List Key) vs fs → Rep K B H (.ref a) (.dT fs)
  | ref (a : Addr) : Rep K B H (.ref a) (.ref a)
  | glo (x : Str) : Rep K B H (.ref (He.ga K x)) (.glo x)
  | scr {a : Addr} {ns : List Int} : BS K B H a (ns.map V.int) → Rep K B H (.ref a) (.scr ns)
inductive RepA (K : PySem.W.Frag) (B : List Addr) (H : Hp) : List V → List D → Prop
  | nil : RepA K B H [] []
  | cons {v : V} {vs : List V} {d : D} {ds : List D} : Rep K B H v d → RepA K B H vs ds → RepA K B H (v :: vs) (d :: ds)
inductive RepF (K : PySem.W.Frag) (B : List Addr) (H : Hp) : (κ : Type) → List (κ × V) → List (κ × D) → Prop
  | nil {κ : Type} : RepF K B H κ [] []
  | cons {κ : Type} {f : κ} {v : V} {vs : List (κ × V)} {d : D} {ds : List (κ × D)} : Rep K B H v d → RepF K B H κ vs ds → RepF K B H κ ((f, v) :: vs) ((f, d) :: ds)
end

/-- from one heap to a later one -/
structure Stp (H : Hp) (B : List Addr) (H' : Hp) (B' : List Addr) : Prop where
  keep : ∀ b o, b ∉ B → H b = some o → H' b = some o
  new : ∀ b, b ∈ B' → b ∈ B ∨ H b = none
theorem Stp.refl (H : Hp) (B : List Addr) : Stp H B H B := ⟨fun _ _ _ h => h, fun _ h => .inl h⟩
theorem Stp.trans {H H1 H2 : Hp} {B B1 B2 : List Addr} (a : Stp H B H1 B1) (b : Stp H1 B1 H2 B2) : Stp H B H2 B2 := by
  refine ⟨fun c o hc e => b.keep c o (fun z => ?_) (a.keep c o hc e), fun c hc => ?_⟩
  · rcases a.new c z with z | z
    · exact hc z
    · rw [z] at e; cases e
  · rcases b.new c hc with z | z
    · exact a.new c z
    · by_cases hb : c ∈ B
      · exact .inl hb
      · refine .inr ?_
        cases q : H c with
        | none => rfl
        | some o => rw [a.keep c o hb q] at z; cases z
theorem Stp.out {H H' : Hp} {B B' : List Addr} (s : Stp H B H' B') {a : Addr} {o : HO} (ha : a ∉ B) (e : H a = some o) : a ∉ B' ∧ H' a = some o := by
  refine ⟨fun z => ?_, s.keep a o ha e⟩
  rcases s.new a z with z | z
  · exact ha z
  · rw [z] at e; cases e
/-- what stands still goes on standing still -/
def Fix (H : Hp) (A : List Addr) (H' : Hp) (A' : List Addr) : Prop := ∀ a o, a ∉ A → H a = some o → a ∉ A' ∧ H' a = some o
theorem Fix.rd {H H' : Hp} {B B' : List Addr} (s : Fix H B H' B') {a : Addr} {o : HO} (ha : a ∉ B) (e : Rd H a o) : a ∉ B' ∧ Rd H' a o := by
  rcases e with e | ⟨ob, e⟩
  · obtain ⟨h1, h2⟩ := s a _ ha e
    exact ⟨h1, .inl h2⟩
  · obtain ⟨h1, h2⟩ := s a _ ha e
    exact ⟨h1, .inr ⟨ob, h2⟩⟩
theorem Fix.bl {H H' : Hp} {B B' : List Addr} (s : Fix H B H' B') {a : Addr} {xs : List V} (h : BL B H a xs) : BL B' H' a xs := s a _ h.1 h.2
theorem Fix.bt {K : PySem.W.Frag} {H H' : Hp} {B B' : List Addr} (s : Fix H B H' B') {a : Addr} {xs : List V} (h : BT K B H a xs) : BT K B' H' a xs := by
  rcases h with ⟨h1, h2⟩ | h
  · exact .inl (s a _ h1 h2)
  · exact .inr h
theorem Fix.bs {K : PySem.W.Frag} {H H' : Hp} {B B' : List Addr} (s : Fix H B H' B') {a : Addr} {xs : List V} (h : BS K B H a xs) : BS K B' H' a xs := by
  rcases h with ⟨h1, h2⟩ | h
  · exact .inl (s.rd h1 h2)
  · exact .inr h
theorem Stp.fix {H H' : Hp} {B B' F : List Addr} (s : Stp H B H' B') : Fix H (B ++ F) H' (B' ++ F) := fun a o ha e => by
  rw [List.mem_append, not_or] at ha
  obtain ⟨h1, h2⟩ := s.out ha.1 e
  exact ⟨by rw [List.mem_append, not_or]; exact ⟨h1, ha.2⟩, h2⟩

mutual
theorem Rep.step {K : PySem.W.Frag} {H H' : Hp} {B B' : List Addr} (s : Fix H B H' B') : ∀ {v : V} {d : D}, Rep K B H v d → Rep K B' H' v d
  | _, _, .non => .non
  | _, _, .bl b => .bl b
  | _, _, .int i => .int i
  | _, _, .str x h => .str x h
  | _, _, .ty n => .ty n
  | _, _, .lst h r => .lst (s.bl h) (RepA.step s r)
  | _, _, .tup h r => .tup (s.bt h) (RepA.step s r)
  | _, _, .obj h1 h2 r => .obj (s _ _ h1 h2).1 (s _ _ h1 h2).2 (RepF.step s r)
  | _, _, .exn h1 h2 z f d1 d2 r => .exn (s _ _ h1 h2).1 (s _ _ h1 h2).2 z f (s _ _ d1 d2).1 (s _ _ d1 d2).2 (RepF.step s r)
  | _, _, .dK h1 h2 r => .dK (s _ _ h1 h2).1 (s _ _ h1 h2).2 (RepF.step s r)
  | _, _, .dT h1 h2 r => .dT (s _ _ h1 h2).1 (s _ _ h1 h2).2 (RepF.step s r)
  | _, _, .glo x => .glo x
  | _, _, .ref a => .ref a
  | _, _, .scr h => .scr (s.bs h)
theorem RepA.step {K : PySem.W.Frag} {H H' : Hp} {B B' : List Addr} (s : Fix H B H' B') : ∀ {vs : List V} {ds : List D}, RepA K B H vs ds → RepA K B' H' vs ds
  | _, _, .nil => .nil
  | _, _, .cons h r => .cons (Rep.step s h) (RepA.step s r)
theorem RepF.step {K : PySem.W.Frag} {H H' : Hp} {B B' : List Addr} (s : Fix H B H' B') : ∀ {κ : Type} {vs : List (κ × V)} {ds : List (κ × D)}, RepF K B H κ vs ds → RepF K B' H' κ vs ds
  | _, _, _, .nil => .nil
  | _, _, _, .cons h r => .cons (Rep.step s h) (RepF.step s r)
end
theorem RepA.len {K : PySem.W.Frag} {B : List Addr} {H : Hp} : ∀ {vs : List V} {ds : List D}, RepA K B H vs ds → vs.length = ds.length
  | _, _, .nil => rfl
  | _, _, .cons _ r => congrArg Nat.succ (RepA.len r)
theorem RepA.get {K : PySem.W.Frag} {B : List Addr} {H : Hp} : ∀ {vs : List V} {ds : List D} {i : Nat} {d : D}, RepA K B H vs ds → ds[i]? = some d → ∃ v, vs[i]? = some v ∧ Rep K B H v d
  | _, _, _, _, .nil, e => by simp at e
  | _, _, 0, _, .cons h _, e => by simp at e; subst e; exact ⟨_, rfl, h⟩
  | _, _, i + 1, d, .cons _ r, e => by
    obtain ⟨v, h1, h2⟩ := RepA.get (i := i) (d := d) r (by simpa using e)
    exact ⟨v, by simpa using h1, h2⟩
theorem RepA.getV {K : PySem.W.Frag} {B : List Addr} {H : Hp} : ∀ {vs : List V} {ds : List D} {i : Nat} {v : V}, RepA K B H vs ds → vs[i]? = some v → ∃ d, ds[i]? = some d ∧ Rep K B H v d
  | _, _, _, _, .nil, e => by simp at e
  | _, _, 0, _, .cons h _, e => by simp at e; subst e; exact ⟨_, rfl, h⟩
  | _, _, i + 1, v, .cons _ r, e => by
    obtain ⟨d, h1, h2⟩ := RepA.getV (i := i) (v := v) r (by simpa using e)
    exact ⟨d, by simpa using h1, h2⟩
theorem RepA.append {K : PySem.W.Frag} {B : List Addr} {H : Hp} : ∀ {vs ws : List V} {ds es : List D}, RepA K B H vs ds → RepA K B H ws es → RepA K B H (vs ++ ws) (ds ++ es)
  | _, _, _, _, .nil, s => s
  | _, _, _, _, .cons h r, s => .cons h (RepA.append r s)
theorem RepA.take {K : PySem.W.Frag} {B : List Addr} {H : Hp} : ∀ {vs : List V} {ds : List D} (n : Nat), RepA K B H vs ds → RepA K B H (vs.take n) (ds.take n)
  | _, _, 0, _ => .nil
  | _, _, _ + 1, .nil => .nil
  | _, _, n + 1, .cons h r => .cons h (RepA.take n r)
theorem RepA.drop {K : PySem.W.Frag} {B : List Addr} {H : Hp} : ∀ {vs : List V} {ds : List D} (n : Nat), RepA K B H vs ds → RepA K B H (vs.drop n) (ds.drop n)
  | _, _, 0, r => r
  | _, _, _ + 1, .nil => .nil
  | _, _, n + 1, .cons _ r => RepA.drop n r
theorem RepA.set {K : PySem.W.Frag} {B : List Addr} {H : Hp} {v : V} {d : D} (h : Rep K B H v d) : ∀ {vs : List V} {ds : List D} (i : Nat), RepA K B H vs ds → RepA K B H (vs.set i v) (ds.set i d)
  | _, _, _, .nil => .nil
  | _, _, 0, .cons _ r => .cons h r
  | _, _, i + 1, .cons q r => .cons q (RepA.set h i r)
theorem RepF.look {K : PySem.W.Frag} {B : List Addr} {H : Hp} : ∀ {κ : Type} {vs : List (κ × V)} {ds : List (κ × D)}, RepF K B H κ vs ds → ∀ [BEq κ] {f : κ} {d : D}, ds.lookup f = some d → ∃ v, vs.lookup f = some v ∧ Rep K B H v d
  | _, _, _, .nil, _, _, _, e => by simp at e
  | κ, _, _, @RepF.cons _ _ _ _ g v vs d' ds h r, i, f, d, e => by
    by_cases q : (f == g) = true
    · simp only [List.lookup, q] at e ⊢
      exact ⟨v, rfl, by cases e; exact h⟩
    · have q' : (f == g) = false := by simpa using q
      simp only [List.lookup, q'] at e ⊢
      exact RepF.look r e
theorem RepF.lookN {K : PySem.W.Frag} {B : List Addr} {H : Hp} : ∀ {κ : Type} {vs : List (κ × V)} {ds : List (κ × D)}, RepF K B H κ vs ds → ∀ [BEq κ] {f : κ}, ds.lookup f = none → vs.lookup f = none
  | _, _, _, .nil, _, _, e => rfl
  | κ, _, _, @RepF.cons _ _ _ _ g v vs d' ds h r, i, f, e => by
    by_cases q : (f == g) = true
    · simp only [List.lookup, q] at e
      cases e
    · have q' : (f == g) = false := by simpa using q
      simp only [List.lookup, q'] at e ⊢
      exact RepF.lookN r e
theorem RepF.len {K : PySem.W.Frag} {B : List Addr} {H : Hp} {κ : Type} {vs : List (κ × V)} {ds : List (κ × D)} (h : RepF K B H κ vs ds) : vs.length = ds.length := by
  match κ, vs, ds, h with
  | _, _, _, .nil => rfl
  | _, _, _, .cons _ r => exact congrArg Nat.succ (RepF.len r)
theorem RepF.fst {K : PySem.W.Frag} {B : List Addr} {H : Hp} {κ : Type} {vs : List (κ × V)} {ds : List (κ × D)} (h : RepF K B H κ vs ds) : vs.map (·.1) = ds.map (·.1) := by
  match κ, vs, ds, h with
  | _, _, _, .nil => rfl
  | _, _, _, .cons _ r => exact congrArg _ (RepF.fst r)

/-- the bag of a law's draws: the cells, how many were taken, what is left of a great cell, a mixed number, the count of draws -/
def BagL (xs : List D) : Prop := ∃ (ns : List Int) (i k m n : Int), xs = [.lst (ns.map D.int), .int i, .int k, .int m, .int n] ∧ ns.length ≤ 63 ∧ 0 ≤ i ∧ 0 ≤ k ∧ 0 ≤ m ∧ m < 2147483579 ∧ 0 ≤ n
def RepO (K : PySem.W.Frag) (B : List Addr) (H : Hp) (a : Addr) : MO → Prop
  | .lst ds => ∃ vs, H a = some (.lst vs) ∧ RepA K B H vs ds
  | .obj C fs => ∃ dx vs, H a = some (.ins (He.ga K C) dx vs) ∧ RepF K B H Str vs fs
  | .dK fs => ∃ vs, H a = some (.dK vs) ∧ RepF K B H Key vs fs
  | .dT fs => ∃ vs, H a = some (.dT vs) ∧ RepF K B H (List Key) vs fs
  | .bag => ∃ ds vs, BagL ds ∧ H a = some (.lst vs) ∧ RepA K B H vs ds
structure RMM (K : PySem.W.Frag) (F : List Addr) (H : Hp) (M : MM) : Prop where
  nd : (keys M).Nodup
  at_ : ∀ a mo, (a, mo) ∈ M → RepO K (ak F M) H a mo
  fd : ∀ f, f ∈ F → f ∉ keys M ∧ ∃ o, H f = some o
theorem RepO.some {K : PySem.W.Frag} {B : List Addr} {H : Hp} {a : Addr} {mo : MO} (h : RepO K B H a mo) : ∃ o, H a = some o := by
  cases mo with
  | lst ds => obtain ⟨vs, e, _⟩ := h; exact ⟨_, e⟩
  | obj C fs => obtain ⟨dx, vs, e, _⟩ := h; exact ⟨_, e⟩
  | dK fs => obtain ⟨vs, e, _⟩ := h; exact ⟨_, e⟩
  | dT fs => obtain ⟨vs, e, _⟩ := h; exact ⟨_, e⟩
  | bag => obtain ⟨ds, vs, _, e, _⟩ := h; exact ⟨_, e⟩
theorem RepO.step {K : PySem.W.Frag} {H H' : Hp} {B B' : List Addr} (s : Fix H B H' B') {a : Addr} {mo : MO} (e : H' a = H a) (h : RepO K B H a mo) : RepO K B' H' a mo := by
  cases mo with
  | lst ds => obtain ⟨vs, q, r⟩ := h; exact ⟨vs, e.trans q, r.step s⟩
  | obj C fs => obtain ⟨dx, vs, q, r⟩ := h; exact ⟨dx, vs, e.trans q, r.step s⟩
  | dK fs => obtain ⟨vs, q, r⟩ := h; exact ⟨vs, e.trans q, r.step s⟩
  | dT fs => obtain ⟨vs, q, r⟩ := h; exact ⟨vs, e.trans q, r.step s⟩
  | bag => obtain ⟨ds, vs, b, q, r⟩ := h; exact ⟨ds, vs, b, e.trans q, r.step s⟩
theorem RMM.there {K : PySem.W.Frag} {F : List Addr} {H : Hp} {M : MM} (m : RMM K F H M) {a : Addr} (ha : a ∈ keys M) : ∃ o, H a = some o := by
  obtain ⟨p, hp, e⟩ := List.mem_map.mp ha
  obtain ⟨b, mo⟩ := p
  cases e
  exact (m.at_ _ _ hp).some
/-- a new thing is laid -/
theorem stp_new {H : Hp} {B : List Addr} {p : Addr} {o : HO} (h : H p = none) : Stp H B (upd H p o) B :=
  ⟨fun b u _ e => by rw [upd_ne (ne_of_none e h)]; exact e, fun b hb => .inl hb⟩
theorem RMM.new {K : PySem.W.Frag} {F : List Addr} {H : Hp} {M : MM} {p : Addr} {o : HO} (m : RMM K F H M) (h : H p = none) : RMM K F (upd H p o) M :=
  ⟨m.nd, fun a mo ha => (m.at_ a mo ha).step (stp_new h).fix (by
    obtain ⟨u, e⟩ := (m.at_ a mo ha).some
    rw [upd_ne (ne_of_none e h)]), fun f hf => by
    obtain ⟨h1, u, e⟩ := m.fd f hf
    exact ⟨h1, u, by rw [upd_ne (ne_of_none e h)]; exact e⟩⟩
theorem RMM.notin {K : PySem.W.Frag} {F : List Addr} {H : Hp} {M : MM} {p : Addr} (m : RMM K F H M) (h : H p = none) : p ∉ ak F M := fun z => by
  rcases List.mem_append.mp z with z | z
  · obtain ⟨o, e⟩ := m.there z
    rw [h] at e; cases e
  · obtain ⟨_, o, e⟩ := m.fd p z
    rw [h] at e; cases e

/-! ### slots, states -/
abbrev SD := List (Option D)
structure RSl (K : PySem.W.Frag) (B : List Addr) (H : Hp) (σ : St) (ds : SD) : Prop where
  len : σ.length = ds.length
  at_ : ∀ (i : Nat) d, ds[i]? = some (some d) → ∃ v, σ[i]? = some (some v) ∧ Rep K B H v d
theorem RSl.step {K : PySem.W.Frag} {H H' : Hp} {B B' : List Addr} {σ : St} {ds : SD} (s : Fix H B H' B') (h : RSl K B H σ ds) : RSl K B' H' σ ds :=
  ⟨h.len, fun i d e => by obtain ⟨v, h1, h2⟩ := h.at_ i d e; exact ⟨v, h1, h2.step s⟩⟩
theorem RSl.put {K : PySem.W.Frag} {H : Hp} {B : List Addr} {σ : St} {ds : SD} (h : RSl K B H σ ds) {i : Nat} {v : V} {d : D} (r : Rep K B H v d) : RSl K B H (σ.set i (some v)) (ds.set i (some d)) := by
  refine ⟨by simp [h.len], fun j e hj => ?_⟩
  by_cases q : i = j
  · subst q
    by_cases hl : i < ds.length
    · rw [List.getElem?_set_self hl] at hj
      cases hj
      exact ⟨v, by rw [List.getElem?_set_self (by rw [h.len]; exact hl)], r⟩
    · rw [List.getElem?_eq_none (by simpa using hl)] at hj
      cases hj
  · rw [List.getElem?_set_ne q] at hj
    obtain ⟨w, h1, h2⟩ := h.at_ j e hj
    exact ⟨w, by rw [List.getElem?_set_ne q]; exact h1, h2⟩
/-- an error: its class, its fields -/
abbrev XD := Str → List (Str × D) → MM → Prop
abbrev X0 : XD := fun _ _ _ => False
/-- what is wished of an error -/
def KW (K : PySem.W.Frag) (F : List Addr) (H : Hp) (M : MM) (σ : St) (Z : XD) (W : WX) : Prop := ∀ C fs vs d H' M', Stp H (keys M) H' (keys M') → RMM K F H' M' → H' d = some (.xd vs) → d ∉ ak F M' → RepF K (ak F M') H' Str vs fs → Z C fs M' → W (.ref (He.ga K C)) (some d) σ H'
theorem KW.on {K : PySem.W.Frag} {F : List Addr} {H H1 : Hp} {M M1 : MM} {σ : St} {Z : XD} {W : WX} (k : KW K F H M σ Z W) (s : Stp H (keys M) H1 (keys M1)) : KW K F H1 M1 σ Z W := fun C fs vs d H' M' st mm e n r q => k C fs vs d H' M' (s.trans st) mm e n r q
theorem kw0 {K : PySem.W.Frag} {F : List Addr} {H : Hp} {M : MM} {σ : St} {W : WX} : KW K F H M σ X0 W := fun _ _ _ _ _ _ _ _ _ _ _ q => q.elim
structure Stt (K : PySem.W.Frag) (W : WX) (F : List Addr) (H : Hp) (σ : St) (ds : SD) (M : MM) (Z : XD) : Prop where
  mm : RMM K F H M
  sl : RSl K (ak F M) H σ ds
  kx : KW K F H M σ Z W
theorem Stt.to {K : PySem.W.Frag} {W : WX} {F : List Addr} {H H' : Hp} {σ : St} {ds : SD} {M M' : MM} {Z : XD} (h : Stt K W F H σ ds M Z) (s : Stp H (keys M) H' (keys M')) (m : RMM K F H' M') : Stt K W F H' σ ds M' Z := ⟨m, h.sl.step s.fix, h.kx.on s⟩

/-! ### arguments as they are written -/
def notStar : Expr → Bool
  | .Starred _ _ => false
  | _ => true
def noStars (es : List Expr) : Bool := es.all notStar
theorem star_cons {e : Expr} {es : List Expr} {env : Env} (h : notStar e = true) : starEach (e :: es) env = (false, eval e env) :: starEach es env := by
  cases e <;> first | (simp [notStar] at h; done) | simp [starEach]
theorem star_one {e : Expr} {env : Env} (h : notStar e = true) : starEach [e] env = [(false, eval e env)] := by
  rw [star_cons h]
  simp [starEach]
theorem star_any {es : List Expr} {env : Env} {pos : Pos} (h : noStars es = true) : (backTo pos (starEach es env)).any (·.1) = false := by
  induction es with
  | nil => simp [starEach, backTo]
  | cons e r ih =>
    have h := Bool.and_eq_true_iff.mp (show (notStar e && r.all notStar) = true from h)
    rw [star_cons h.1]
    have := ih h.2
    unfold backTo at this ⊢
    rw [List.map_cons, List.any_cons, this]
    rfl
theorem star_all {es : List Expr} {env : Env} {pos : Pos} (h : noStars es = true) : (backTo pos (starEach es env)).all (fun x => !x.1) = true := by
  have := star_any (env := env) (pos := pos) h
  rw [List.any_eq_false] at this
  rw [List.all_eq_true]
  intro x hx
  have := this x hx
  cases q : x.1
  · rfl
  · rw [q] at this; exact absurd rfl this
theorem star_some {es : List Expr} {env : Env} {pos : Pos} (h : es.any (fun e => !notStar e) = true) : (backTo pos (starEach es env)).any (·.1) = true := by
  induction es with
  | nil => cases h
  | cons e r ih =>
    by_cases he : notStar e = true
    · rw [star_cons he]
      have h2 : r.any (fun e => !notStar e) = true := by
        rw [List.any_cons, he] at h
        exact h
      have := ih h2
      unfold backTo at this ⊢
      rw [List.map_cons, List.any_cons, this]
      simp
    · cases e <;> first | (exact absurd rfl he) | (simp [starEach, backTo])
theorem kw_each {kws : List Keyword} {env : Env} : keywordEach kws env = kws.map fun k => (k.arg, eval k.value env) := by
  induction kws with
  | nil => simp [keywordEach]
  | cons k r ih => obtain ⟨n, v, p⟩ := k; simp [keywordEach, ih]
def kwsOk (kws : List Keyword) (ks : List Str) : Bool := kws.map (·.arg) == ks.map some
theorem kw_names {kws : List Keyword} {ks : List Str} {env : Env} {pos : Pos} (h : kwsOk kws ks = true) : (backToKw pos (keywordEach kws env)).map (·.1) = ks.map some := by
  rw [kw_each]
  unfold backToKw
  rw [List.map_map, List.map_map]
  have h := eq_of_beq (show (kws.map (·.arg) == ks.map some) = true from h)
  rw [← h]
  rfl
theorem kw_all {kws : List Keyword} {ks : List Str} {env : Env} {pos : Pos} (h : kwsOk kws ks = true) : (backToKw pos (keywordEach kws env)).all (·.1.isSome) = true := by
  have e := kw_names (env := env) (pos := pos) h
  rw [List.all_eq_true]
  intro x hx
  have : x.1 ∈ (backToKw pos (keywordEach kws env)).map (·.1) := List.mem_map.mpr ⟨x, hx, rfl⟩
  rw [e] at this
  obtain ⟨k, _, e⟩ := List.mem_map.mp this
  rw [← e]
  rfl
theorem kw_ks {kws : List Keyword} {ks : List Str} {env : Env} {pos : Pos} (h : kwsOk kws ks = true) : (backToKw pos (keywordEach kws env)).filterMap (·.1) = ks := by
  have e := kw_names (env := env) (pos := pos) h
  have : ∀ (l : List (Option Str × Sem Value)) (ks : List Str), l.map (·.1) = ks.map some → l.filterMap (·.1) = ks := by
    intro l
    induction l with
    | nil => intro ks h; cases ks with
      | nil => rfl
      | cons _ _ => cases h
    | cons x r ih => intro ks h; cases ks with
      | nil => cases h
      | cons k ks =>
        rw [List.map_cons, List.map_cons] at h
        injection h with h1 h2
        rw [List.filterMap_cons, h1]
        show k :: _ = k :: ks
        rw [ih ks h2]
  exact this _ _ e
theorem kw_none {kws : List Keyword} {ks : List Str} {env : Env} {pos : Pos} (h : kwsOk kws ks = true) : (backToKw pos (keywordEach kws env)).any (·.1.isNone) = false := by
  have := kw_all (env := env) (pos := pos) h
  rw [List.all_eq_true] at this
  rw [List.any_eq_false]
  intro x hx
  have := this x hx
  cases q : x.1
  · rw [q] at this; cases this
  · simp
def plainTest : Expr → Bool
  | .UnaryOp .Not _ _ => false | .BoolOp _ _ _ => false | .IfExp _ _ _ _ => false | .Compare _ _ _ _ => false
  | _ => true
theorem is_true {e : Expr} {env : Env} (h : plainTest e = true) (whole : Sem Value) : isTrue e env whole = (do let v ← whole; standAt e.pos; holding [v] (truthy v)) := by
  cases e with
  | UnaryOp op x p => cases op <;> first | (cases h; done) | simp [PySem.isTrue]
  | _ => first | (cases h; done) | simp [PySem.isTrue]

/-! ### what is reckoned first -/
def letK {α : Type} (a : α) (k : α → Prop) : Prop := k a
theorem letK_congr {α : Type} {a a' : α} {k : α → Prop} (h : a = a') : letK a k = letK a' k := by rw [h]
@[simp ↓] theorem letK_eq {α : Type} (a : α) (k : α → Prop) : letK a k = k a := rfl
def optK {α : Type} (o : Option α) (k : α → Prop) : Prop := match o with | some a => k a | none => False
theorem optK_congr {α : Type} {a a' : Option α} {k : α → Prop} (h : a = a') : optK a k = optK a' k := by rw [h]
@[simp] theorem optK_some {α : Type} (a : α) (k : α → Prop) : optK (some a) k = k a := rfl
@[simp] theorem optK_none {α : Type} (k : α → Prop) : optK none k = False := rfl
def slotK (o : Option (Option D)) (k : D → Prop) : Prop := match o with | some (some a) => k a | _ => False
theorem slotK_congr {a a' : Option (Option D)} {k : D → Prop} (h : a = a') : slotK a k = slotK a' k := by rw [h]
@[simp] theorem slotK_some (a : D) (k : D → Prop) : slotK (some (some a)) k = k a := rfl
def lstK (o : Option MO) (k : List D → Prop) : Prop := match o with | some (.lst xs) => k xs | _ => False
theorem lstK_congr {a a' : Option MO} {k : List D → Prop} (h : a = a') : lstK a k = lstK a' k := by rw [h]
@[simp] theorem lstK_some (a : List D) (k : List D → Prop) : lstK (some (.lst a)) k = k a := rfl

/-! ### judgements -/
abbrev QD := D → MM → Prop
abbrev TD := SD → MM → XD → QD → Prop
abbrev TTD := SD → MM → XD → (Bool → MM → Prop) → Prop
abbrev TAD := SD → MM → XD → (List D → MM → Prop) → Prop
structure PD (X : Cx) (e : Expr) (t : TD) : Prop where
  run : ∀ (W : WX), Takes X W → ∀ (F : List Addr) (pins : List (Addr × Obj)) (s : Shared) (σ : St) (H : Hp) (ds : SD) (M : MM) (Z : XD) (Q : QD), Inv X pins σ H s → Stt X.K W F H σ ds M Z → t ds M Z Q →
  wpAny (model X.prog X.w) X.A (eval e X.env) (fun u s' => ∃ v H' d M', Inv X pins σ H' s' ∧ RelV v u ∧ Stp H (keys M) H' (keys M') ∧ RMM X.K F H' M' ∧ Rep X.K (ak F M') H' v d ∧ Q d M') X.xe s
def EQ (K : PySem.W.Frag) (F : List Addr) (H : Hp) (M : MM) (Q : QD) : VK := fun v H' => ∃ d M', Stp H (keys M) H' (keys M') ∧ RMM K F H' M' ∧ Rep K (ak F M') H' v d ∧ Q d M'
def KQ (K : PySem.W.Frag) (F : List Addr) (H : Hp) (M : MM) (Q : QD) (QV : VK) : Prop := ∀ v H' d M', Stp H (keys M) H' (keys M') → RMM K F H' M' → Rep K (ak F M') H' v d → Q d M' → QV v H'
theorem KQ.eq {K : PySem.W.Frag} {F : List Addr} {H : Hp} {M : MM} {Q : QD} : KQ K F H M Q (EQ K F H M Q) := fun _ _ d M' st mm rp q => ⟨d, M', st, mm, rp, q⟩
theorem KQ.on {K : PySem.W.Frag} {F : List Addr} {H H1 : Hp} {M M1 : MM} {Q : QD} {QV : VK} (k : KQ K F H M Q QV) (s : Stp H (keys M) H1 (keys M1)) : KQ K F H1 M1 Q QV := fun v H' d M' st mm rp q => k v H' d M' (s.trans st) mm rp q
/-- the heap as it is -/
theorem KQ.at {K : PySem.W.Frag} {F : List Addr} {H : Hp} {M : MM} {Q : QD} {QV : VK} (k : KQ K F H M Q QV) (mm : RMM K F H M) {v : V} {d : D} (r : Rep K (ak F M) H v d) (q : Q d M) : QV v H := k v H d M (.refl _ _) mm r q
theorem RMM.newL {K : PySem.W.Frag} {F : List Addr} {H : Hp} {M : MM} {p : Addr} {vs : List V} {xs : List D} (m : RMM K F H M) (h : H p = none) (r : RepA K (ak F M) H vs xs) : Rep K (ak F M) (upd H p (.lst vs)) (.ref p) (.lst xs) := .lst ⟨m.notin h, upd_same⟩ (r.step (stp_new h).fix)
theorem RMM.newT {K : PySem.W.Frag} {F : List Addr} {H : Hp} {M : MM} {p : Addr} {vs : List V} {xs : List D} (m : RMM K F H M) (h : H p = none) (r : RepA K (ak F M) H vs xs) : Rep K (ak F M) (upd H p (.tup vs)) (.ref p) (.tup xs) := .tup (.inl ⟨m.notin h, upd_same⟩) (r.step (stp_new h).fix)
/-- a new list, a new tuple -/
theorem KQ.newL {K : PySem.W.Frag} {F : List Addr} {H : Hp} {M : MM} {Q : QD} {QV : VK} (k : KQ K F H M Q QV) (mm : RMM K F H M) {vs : List V} {xs : List D} (r : RepA K (ak F M) H vs xs) (q : Q (.lst xs) M) : ∀ p, H p = none → QV (.ref p) (upd H p (.lst vs)) := fun p hp => k _ _ _ M (stp_new hp) (mm.new hp) (mm.newL hp r) q
theorem KQ.newT {K : PySem.W.Frag} {F : List Addr} {H : Hp} {M : MM} {Q : QD} {QV : VK} (k : KQ K F H M Q QV) (mm : RMM K F H M) {vs : List V} {xs : List D} (r : RepA K (ak F M) H vs xs) (q : Q (.tup xs) M) : ∀ p, H p = none → QV (.ref p) (upd H p (.tup vs)) := fun p hp => k _ _ _ M (stp_new hp) (mm.new hp) (mm.newT hp r) q
def teOf (K : PySem.W.Frag) (W : WX) (t : TD) : TE := fun σ H Q => ∃ F ds M Z QD, Stt K W F H σ ds M Z ∧ t ds M Z QD ∧ KQ K F H M QD Q
theorem PD.pe {X : Cx} {W : WX} {e : Expr} {t : TD} (h : PD X e t) (tk : Takes X W) : PE X e (teOf X.K W t) := by
  refine ⟨fun pins s σ H Q I hw => ?_⟩
  obtain ⟨F, ds, M, Z, QD, hs, ht, hq⟩ := hw
  refine thn (h.run W tk F pins s σ H ds M Z QD I hs ht) fun u s' hh => ?_
  obtain ⟨v, H', d, M', I', r, st, mm, rp, q⟩ := hh
  exact ⟨v, H', I', r, hq v H' d M' st mm rp q⟩
theorem PD.of {X : Cx} {e : Expr} {te : WX → TE} {t : TD} (h : ∀ W, Takes X W → PE X e (te W)) (hi : ∀ W F σ H ds M Z Q, Stt X.K W F H σ ds M Z → t ds M Z Q → te W σ H (EQ X.K F H M Q)) : PD X e t := by
  refine ⟨fun W tk F pins s σ H ds M Z Q I hs ht => ?_⟩
  refine thn ((h W tk).run pins s σ H _ I (hi W F σ H ds M Z Q hs ht)) fun u s' hh => ?_
  obtain ⟨v, H', I', r, d, M', st, mm, rp, q⟩ := hh
  exact ⟨v, H', d, M', I', r, st, mm, rp, q⟩
structure PTD (X : Cx) (e : Expr) (t : TTD) : Prop where
  run : ∀ (W : WX), Takes X W → ∀ (F : List Addr) (pins : List (Addr × Obj)) (s : Shared) (σ : St) (H : Hp) (ds : SD) (M : MM) (Z : XD) (Q : Bool → MM → Prop), Inv X pins σ H s → Stt X.K W F H σ ds M Z → t ds M Z Q →
  wpAny (model X.prog X.w) X.A (isTrue e X.env (eval e X.env)) (fun b s' => ∃ H' M', Inv X pins σ H' s' ∧ Stp H (keys M) H' (keys M') ∧ RMM X.K F H' M' ∧ Q b M') X.xe s
def ETQ (K : PySem.W.Frag) (F : List Addr) (H : Hp) (M : MM) (Q : Bool → MM → Prop) : Bool → Hp → Prop := fun b H' => ∃ M', Stp H (keys M) H' (keys M') ∧ RMM K F H' M' ∧ Q b M'
def ttOf (K : PySem.W.Frag) (W : WX) (t : TTD) : TT := fun σ H Q => ∃ F ds M Z QD, Stt K W F H σ ds M Z ∧ t ds M Z QD ∧ ∀ b H' M', Stp H (keys M) H' (keys M') → RMM K F H' M' → QD b M' → Q b H'
theorem PTD.pt {X : Cx} {W : WX} {e : Expr} {t : TTD} (h : PTD X e t) (tk : Takes X W) : PT X e (ttOf X.K W t) := by
  refine ⟨fun pins s σ H Q I hw => ?_⟩
  obtain ⟨F, ds, M, Z, QD, hs, ht, hq⟩ := hw
  refine thn (h.run W tk F pins s σ H ds M Z QD I hs ht) fun u s' hh => ?_
  obtain ⟨H', M', I', st, mm, q⟩ := hh
  exact ⟨H', I', hq u H' M' st mm q⟩
theorem PTD.of {X : Cx} {e : Expr} {tt : WX → TT} {t : TTD} (h : ∀ W, Takes X W → PT X e (tt W)) (hi : ∀ W F σ H ds M Z Q, Stt X.K W F H σ ds M Z → t ds M Z Q → tt W σ H (ETQ X.K F H M Q)) : PTD X e t := by
  refine ⟨fun W tk F pins s σ H ds M Z Q I hs ht => ?_⟩
  refine thn ((h W tk).run pins s σ H _ I (hi W F σ H ds M Z Q hs ht)) fun u s' hh => ?_
  obtain ⟨H', I', M', st, mm, q⟩ := hh
  exact ⟨H', M', I', st, mm, q⟩
/-- and, or of tests, whatever the whole is -/
structure PWD (X : Cx) (e : Expr) (t : TTD) : Prop where
  run : ∀ (W : WX), Takes X W → ∀ (whole : Sem Value) (F : List Addr) (pins : List (Addr × Obj)) (s : Shared) (σ : St) (H : Hp) (ds : SD) (M : MM) (Z : XD) (Q : Bool → MM → Prop), Inv X pins σ H s → Stt X.K W F H σ ds M Z → t ds M Z Q →
  wpAny (model X.prog X.w) X.A (isTrue e X.env whole) (fun b s' => ∃ H' M', Inv X pins σ H' s' ∧ Stp H (keys M) H' (keys M') ∧ RMM X.K F H' M' ∧ Q b M') X.xe s
theorem PWD.pt {X : Cx} {e : Expr} {t : TTD} (h : PWD X e t) : PTD X e t := ⟨fun W tk => h.run W tk _⟩
theorem PWD.pw {X : Cx} {W : WX} {e : Expr} {t : TTD} (h : PWD X e t) (tk : Takes X W) : PW X e (ttOf X.K W t) := by
  refine ⟨fun wh pins s σ H Q I hw => ?_⟩
  obtain ⟨F, ds, M, Z, QD, hs, ht, hq⟩ := hw
  refine thn (h.run W tk wh F pins s σ H ds M Z QD I hs ht) fun u s' hh => ?_
  obtain ⟨H', M', I', st, mm, q⟩ := hh
  exact ⟨H', I', hq u H' M' st mm q⟩
theorem PWD.of {X : Cx} {e : Expr} {tt : WX → TT} {t : TTD} (h : ∀ W, Takes X W → PW X e (tt W)) (hi : ∀ W F σ H ds M Z Q, Stt X.K W F H σ ds M Z → t ds M Z Q → tt W σ H (ETQ X.K F H M Q)) : PWD X e t := by
  refine ⟨fun W tk wh F pins s σ H ds M Z Q I hs ht => ?_⟩
  refine thn ((h W tk).run wh pins s σ H _ I (hi W F σ H ds M Z Q hs ht)) fun u s' hh => ?_
  obtain ⟨H', I', M', st, mm, q⟩ := hh
  exact ⟨H', M', I', st, mm, q⟩
/-- arguments -/
structure PAD (X : Cx) (es : List Expr) (t : TAD) : Prop where
  run : ∀ (W : WX), Takes X W → ∀ (pos : Pos) (F : List Addr) (pins : List (Addr × Obj)) (s : Shared) (σ : St) (H : Hp) (ds : SD) (M : MM) (Z : XD) (Q : List D → MM → Prop), Inv X pins σ H s → Stt X.K W F H σ ds M Z → t ds M Z Q →
  wpAny (model X.prog X.w) X.A (spliced (backTo pos (starEach es X.env))) (fun us s' => ∃ vs H' xs M', Inv X pins σ H' s' ∧ Vals vs us ∧ Stp H (keys M) H' (keys M') ∧ RMM X.K F H' M' ∧ RepA X.K (ak F M') H' vs xs ∧ Q xs M') X.xe s
def taOf (K : PySem.W.Frag) (W : WX) (t : TAD) : TA := fun σ H Q => ∃ F ds M Z QD, Stt K W F H σ ds M Z ∧ t ds M Z QD ∧ ∀ vs H' xs M', Stp H (keys M) H' (keys M') → RMM K F H' M' → RepA K (ak F M') H' vs xs → QD xs M' → Q vs H'
theorem PAD.pa {X : Cx} {W : WX} {es : List Expr} {t : TAD} (h : PAD X es t) (tk : Takes X W) : PA X es (taOf X.K W t) := by
  refine ⟨fun pos pins s σ H Q I hw => ?_⟩
  obtain ⟨F, ds, M, Z, QD, hs, ht, hq⟩ := hw
  refine thn (h.run W tk pos F pins s σ H ds M Z QD I hs ht) fun us s' hh => ?_
  obtain ⟨vs, H', xs, M', I', r, st, mm, rp, q⟩ := hh
  exact ⟨vs, H', I', r, hq vs H' xs M' st mm rp q⟩
structure PKD (X : Cx) (ks : List Keyword) (t : TAD) : Prop where
  run : ∀ (W : WX), Takes X W → ∀ (pos : Pos) (F : List Addr) (pins : List (Addr × Obj)) (s : Shared) (σ : St) (H : Hp) (ds : SD) (M : MM) (Z : XD) (Q : List D → MM → Prop), Inv X pins σ H s → Stt X.K W F H σ ds M Z → t ds M Z Q →
  wpAny (model X.prog X.w) X.A (evalAll ((backToKw pos (keywordEach ks X.env)).map (·.2))) (fun us s' => ∃ vs H' xs M', Inv X pins σ H' s' ∧ Vals vs us ∧ Stp H (keys M) H' (keys M') ∧ RMM X.K F H' M' ∧ RepA X.K (ak F M') H' vs xs ∧ Q xs M') X.xe s
def dNil : TAD := fun _ M _ Q => Q [] M
@[simp ↓] theorem dNil_eq : ∀ w0 M w2 Q, dNil w0 M w2 Q = (Q [] M) := fun _ _ _ _ => rfl
def dCons (t : TD) (r : TAD) : TAD := fun ds M Z Q => t ds M Z fun x M1 => r ds M1 Z fun xs M2 => Q (x :: xs) M2
@[simp ↓] theorem dCons_eq (t : TD) (r : TAD) : ∀ ds M Z Q, dCons t r ds M Z Q = (t ds M Z fun x M1 => r ds M1 Z fun xs M2 => Q (x :: xs) M2) := fun _ _ _ _ => rfl
section
variable {X : Cx}
theorem ad_nil : PAD X [] dNil := ⟨fun W tk pos F pins s σ H ds M Z Q I hs hq =>
  thn (pa_nil.run pos pins s σ H (fun vs H' => vs = [] ∧ H' = H) I ⟨rfl, rfl⟩) fun us s' ⟨vs, H', I', r, e1, e2⟩ => by
    subst e1 e2
    exact ⟨[], _, [], M, I', r, .refl _ _, hs.mm, .nil, hq⟩⟩
theorem ad_cons {e : Expr} {es : List Expr} {t : TD} {r : TAD} (h : PD X e t) (hr : PAD X es r) (he : notStar e = true := by rfl) : PAD X (e :: es) (dCons t r) := by
  refine ⟨fun W tk pos F pins s σ H ds M Z Q I hs ht => ?_⟩
  rw [star_cons he]
  show wpAny _ _ (spliced ((false, eval e X.env) :: backTo pos (starEach es X.env))) _ _ s
  refine Calls.spliced_cons (thn (h.run W tk F pins s σ H ds M Z _ I hs ht) fun u s1 ⟨v, H1, d, M1, I1, r1, st, mm, rp, q⟩ => ?_)
  refine thn (hr.run W tk pos F pins s1 σ H1 ds M1 Z _ I1 (hs.to st mm) q) fun us s2 ⟨vs, H2, xs, M2, I2, r2, st2, mm2, rp2, q2⟩ => ?_
  exact ⟨v :: vs, H2, d :: xs, M2, I2, .cons r1 r2, st.trans st2, mm2, .cons (rp.step st2.fix) rp2, q2⟩
end
end L2.Dl

namespace L2.Dl
open PySem PySem.Spec PyProof.Rows
section
variable {X : Cx} {a b c : Expr} {ta tb tc : TD} {pos : Pos}

/-! ### names, constants -/
def dVar (i : Nat) : TD := fun ds M Z Q => slotK ds[i]? fun d => Q d M
@[simp ↓] theorem dVar_eq (i : Nat) : ∀ ds M Z Q, dVar i ds M Z Q = (slotK ds[i]? fun d => Q d M) := fun _ _ _ _ => rfl
def dC (d : D) : TD := fun _ M _ Q => Q d M
@[simp ↓] theorem dC_eq (d : D) : ∀ w0 M w2 Q, dC d w0 M w2 Q = (Q d M) := fun _ _ _ _ => rfl
theorem d_v (i : Nat) {x : Str} {pos : Pos} (hN : X.N[i]? = some x := by rfl) (hv : Vis X.env.scope x := by first | exact Or.inl rfl | exact Or.inr (Or.inl rfl) | exact Or.inr (Or.inr rfl)) (hd : (x == ("__debug__" : Str)) = false := by decide)
    (hcd : (x == ("__classdict__" : Str)) = false := by decide) : PD X (.Name x pos) (dVar i) := by
  refine PD.of (fun W tk => pe_var hN hv hd hcd) fun W F σ H ds M Z Q hs ht => ?_
  unfold dVar slotK at ht
  split at ht
  · rename_i d e
    obtain ⟨v, h1, h2⟩ := hs.sl.at_ i d e
    exact ⟨v, h1, KQ.eq.at hs.mm h2 ht⟩
  · exact ht.elim
theorem d_const {e : Expr} {v : V} {d : D} (h : PE X e (tC v)) (r : ∀ B H, Rep X.K B H v d) : PD X e (dC d) := PD.of (fun W tk => h) fun W F σ H ds M Z Q hs ht => KQ.eq.at hs.mm (r _ _) ht
theorem d_int {i j pos} : PD X (.Constant (.int i) j pos) (dC (.int i)) := d_const pe_int fun _ _ => .int i
theorem d_bl {b j pos} : PD X (.Constant (.bool b) j pos) (dC (.bl b)) := d_const pe_bl fun _ _ => .bl b
theorem d_non {j pos} : PD X (.Constant .none j pos) (dC .non) := d_const pe_non fun _ _ => .non
theorem d_str {x j pos} (h : PyData.strOk x = true := by decide +kernel) : PD X (.Constant (.str x) j pos) (dC (.str x)) := d_const pe_str fun _ _ => .str x h
/-- a module's int or text -/
theorem d_globI {x : Str} {i : Int} {pos : Pos} (hm : ∃ t, X.mg x = some (.int i t)) (hg : Gl X x := by rfl) (hd : (x == ("__debug__" : Str)) = false := by decide) : PD X (.Name x pos) (dC (.int i)) := by
  obtain ⟨t, hm⟩ := hm
  exact d_const (v := .int i) (pe_glob hg hm ⟨_, rfl⟩ hd) fun _ _ => .int i
theorem d_globS {x : Str} {z : Str} {pos : Pos} (hm : ∃ t, X.mg x = some (.str z t)) (h : PyData.strOk z = true := by decide +kernel) (hg : Gl X x := by rfl) (hd : (x == ("__debug__" : Str)) = false := by decide) : PD X (.Name x pos) (dC (.str z)) := by
  obtain ⟨t, hm⟩ := hm
  exact d_const (v := .str z) (pe_glob hg hm ⟨_, rfl⟩ hd) fun _ _ => .str z h
/-- a class, a def of the module as a value -/
theorem d_globR {x : Str} {pos : Pos} (hm : X.mg x = some (.ref (He.ga X.K x))) (hg : Gl X x := by rfl) (hd : (x == ("__debug__" : Str)) = false := by decide) : PD X (.Name x pos) (dC (.glo x)) := d_const (v := .ref (He.ga X.K x)) (pe_glob hg hm rfl hd) fun _ _ => .glo x
/-- a built-in type's name -/
theorem d_ty {x : Str} {n : String} {pos : Pos} (hm : X.mg x = none) (hv : bootBuiltins x = some (.type n)) (hg : Gl X x := by rfl) (hn : x ≠ "__name__" := by decide) (hd : (x == ("__debug__" : Str)) = false := by decide) : PD X (.Name x pos) (dC (.ty n)) := d_const (v := .ty n) (pe_bltn hg hm hv rfl hn hd) fun _ _ => .ty n

/-! ### operations by data -/
abbrev R2D := D → D → MM → QD → Prop
def OpD (X : Cx) (f : Value → Value → Sem Value) (r : R2D) : Prop := ∃ rv, OpR X f rv ∧ ∀ F H M x y dx dy Q QV, RMM X.K F H M → Rep X.K (ak F M) H x dx → Rep X.K (ak F M) H y dy → r dx dy M Q → KQ X.K F H M Q QV → rv x y H QV
def dOp (r : R2D) (ta tb : TD) : TD := fun ds M Z Q => ta ds M Z fun x M1 => tb ds M1 Z fun y M2 => r x y M2 Q
@[simp ↓] theorem dOp_eq (r : R2D) (ta tb : TD) : ∀ ds M Z Q, dOp r ta tb ds M Z Q = (ta ds M Z fun x M1 => tb ds M1 Z fun y M2 => r x y M2 Q) := fun _ _ _ _ => rfl
theorem two {W : WX} {F : List Addr} {σ : L2.St} {H : Hp} {ds : SD} {M : MM} {Z : XD} {Q : QD} {QV : VK} {r : R2D} {rv : V → V → Hp → VK → Prop} (hr : ∀ F H M x y dx dy Q QV, RMM X.K F H M → Rep X.K (ak F M) H x dx → Rep X.K (ak F M) H y dy → r dx dy M Q → KQ X.K F H M Q QV → rv x y H QV)
    (hs : Stt X.K W F H σ ds M Z) (ht : dOp r ta tb ds M Z Q) (k : KQ X.K F H M Q QV) : tOp rv (teOf X.K W ta) (teOf X.K W tb) σ H QV := by
  refine ⟨F, ds, M, _, _, hs, ht, fun v H1 d M1 st mm rp q => ?_⟩
  refine ⟨F, ds, M1, _, _, hs.to st mm, q, fun w H2 e M2 st2 mm2 rp2 q2 => ?_⟩
  exact hr F H2 M2 v w d e Q QV mm2 (rp.step st2.fix) rp2 q2 (k.on (st.trans st2))
theorem d_op {op : Operator} {r : R2D} (ho : OpD X (binaryOp op) r) (ha : PD X a ta) (hb : PD X b tb) : PD X (.BinOp a op b pos) (dOp r ta tb) := by
  obtain ⟨rv, o, hr⟩ := ho
  exact PD.of (fun W tk => pe_op o (ha.pe tk) (hb.pe tk)) fun W F σ H ds M Z Q hs ht => two hr hs ht KQ.eq
theorem d_cmp {op : CmpOp} {r : R2D} (ho : OpD X (compareOp op) r) (ha : PD X a ta) (hb : PD X b tb) (hm : behindInMarks op b = false) : PD X (.Compare a [op] [b] pos) (dOp r ta tb) := by
  obtain ⟨rv, o, hr⟩ := ho
  exact PD.of (fun W tk => pe_cmpR o (ha.pe tk) (hb.pe tk) hm) fun W F σ H ds M Z Q hs ht => two hr hs ht KQ.eq
/-- a bool as a test -/
def dTest (t : TD) : TTD := fun ds M Z Q => t ds M Z fun x M1 => match x with | .bl k => Q k M1 | _ => False
@[simp ↓] theorem dTest_eq (t : TD) : ∀ ds M Z Q, dTest t ds M Z Q = (t ds M Z fun x M1 => match x with | .bl k => Q k M1 | _ => False) := fun _ _ _ _ => rfl
theorem d_tcmp {op : CmpOp} {r : R2D} (ho : OpD X (compareOp op) r) (ha : PD X a ta) (hb : PD X b tb) (hm : behindInMarks op b = false) : PTD X (.Compare a [op] [b] pos) (dTest (dOp r ta tb)) := by
  obtain ⟨rv, o, hr⟩ := ho
  refine PTD.of (fun W tk => pt_cmpR o (ha.pe tk) (hb.pe tk) hm) fun W F σ H ds M Z Q hs ht => ?_
  refine two hr hs ht fun v H' d M' st mm rp q => ?_
  cases d with
  | bl k => cases rp; exact ⟨k, rfl, M', st, mm, q⟩
  | _ => exact (show False from q).elim
theorem d_tval {e : Expr} {t : TD} (h : PD X e t) (he : plainTest e = true := by rfl) : PTD X e (dTest t) := by
  refine PTD.of (fun W tk => pt_val (h.pe tk) (is_true he)) fun W F σ H ds M Z Q hs ht => ?_
  refine ⟨F, ds, M, _, _, hs, ht, fun v H' d M' st mm rp q => ?_⟩
  cases d with
  | bl k => cases rp; exact ⟨k, rfl, M', st, mm, q⟩
  | _ => exact (show False from q).elim
/-- a chain of two comparisons -/
def dChain (r r' : R2D) (ta tb tc : TD) : TD := fun ds M Z Q => ta ds M Z fun x M1 => tb ds M1 Z fun y M2 => r x y M2 fun z M3 => match z with
  | .bl k => if k = true then tc ds M3 Z fun w M4 => r' y w M4 Q else Q (.bl false) M3
  | _ => False
@[simp ↓] theorem dChain_eq (r r' : R2D) (ta tb tc : TD) : ∀ ds M Z Q, dChain r r' ta tb tc ds M Z Q = (ta ds M Z fun x M1 => tb ds M1 Z fun y M2 => r x y M2 fun z M3 => match z with
  | .bl k => if k = true then tc ds M3 Z fun w M4 => r' y w M4 Q else Q (.bl false) M3
  | _ => False) := fun _ _ _ _ => rfl
theorem chain_ok {W : WX} {F : List Addr} {σ : L2.St} {H : Hp} {ds : SD} {M : MM} {Z : XD} {Q : QD} {QV : VK} {r r' : R2D} {rv rv' : V → V → Hp → VK → Prop} (hr : ∀ F H M x y dx dy Q QV, RMM X.K F H M → Rep X.K (ak F M) H x dx → Rep X.K (ak F M) H y dy → r dx dy M Q → KQ X.K F H M Q QV → rv x y H QV)
    (hr' : ∀ F H M x y dx dy Q QV, RMM X.K F H M → Rep X.K (ak F M) H x dx → Rep X.K (ak F M) H y dy → r' dx dy M Q → KQ X.K F H M Q QV → rv' x y H QV)
    (hs : Stt X.K W F H σ ds M Z) (ht : dChain r r' ta tb tc ds M Z Q) (k : KQ X.K F H M Q QV) : tChain rv rv' (teOf X.K W ta) (teOf X.K W tb) (teOf X.K W tc) σ H QV := by
  refine ⟨F, ds, M, _, _, hs, ht, fun v H1 d M1 st mm rp q => ?_⟩
  refine ⟨F, ds, M1, _, _, hs.to st mm, q, fun w H2 e M2 st2 mm2 rp2 q2 => ?_⟩
  refine hr F H2 M2 v w d e _ _ mm2 (rp.step st2.fix) rp2 q2 fun z H3 f M3 st3 mm3 rp3 q3 => ?_
  cases f with
  | bl kk =>
    cases rp3
    refine ⟨kk, rfl, ?_⟩
    cases kk with
    | true =>
      refine iteT ⟨F, ds, M3, _, _, hs.to ((st.trans st2).trans st3) mm3, q3, fun u H4 g M4 st4 mm4 rp4 q4 => ?_⟩
      exact hr' F H4 M4 w u e g Q QV mm4 ((rp2.step st3.fix).step st4.fix) rp4 q4 (k.on (((st.trans st2).trans st3).trans st4))
    | false => exact iteF ((k.on ((st.trans st2).trans st3)).at mm3 (.bl false) q3)
  | _ => exact (show False from q3).elim
theorem d_chain {op op' : CmpOp} {r r' : R2D} (ho : OpD X (compareOp op) r) (ho' : OpD X (compareOp op') r') (ha : PD X a ta) (hb : PD X b tb) (hc : PD X c tc)
    (hm : lastMarks [op, op'] [b, c] = false := by with_unfolding_all rfl) : PD X (.Compare a [op, op'] [b, c] pos) (dChain r r' ta tb tc) := by
  obtain ⟨rv, o, hr⟩ := ho
  obtain ⟨rv', o', hr'⟩ := ho'
  exact PD.of (fun W tk => pe_chain o o' (ha.pe tk) (hb.pe tk) (hc.pe tk) hm) fun W F σ H ds M Z Q hs ht => chain_ok hr hr' hs ht KQ.eq
theorem d_tchain {op op' : CmpOp} {r r' : R2D} (ho : OpD X (compareOp op) r) (ho' : OpD X (compareOp op') r') (ha : PD X a ta) (hb : PD X b tb) (hc : PD X c tc)
    (hm : lastMarks [op, op'] [b, c] = false := by with_unfolding_all rfl) : PTD X (.Compare a [op, op'] [b, c] pos) (dTest (dChain r r' ta tb tc)) := by
  obtain ⟨rv, o, hr⟩ := ho
  obtain ⟨rv', o', hr'⟩ := ho'
  refine PTD.of (fun W tk => pt_chain o o' (ha.pe tk) (hb.pe tk) (hc.pe tk) hm) fun W F σ H ds M Z Q hs ht => ?_
  refine chain_ok hr hr' hs ht fun v H' d M' st mm rp q => ?_
  cases d with
  | bl k => cases rp; exact ⟨k, rfl, M', st, mm, q⟩
  | _ => exact (show False from q).elim

/-! ### and, or, not, if -/
variable {tA tB : TTD} {rest : List Expr}
def dAnd (t u : TTD) : TTD := fun ds M Z Q => t ds M Z fun c M1 => if c = true then u ds M1 Z Q else Q false M1
@[simp ↓] theorem dAnd_eq (t u : TTD) : ∀ ds M Z Q, dAnd t u ds M Z Q = (t ds M Z fun c M1 => if c = true then u ds M1 Z Q else Q false M1) := fun _ _ _ _ => rfl
def dOr (t u : TTD) : TTD := fun ds M Z Q => t ds M Z fun c M1 => if c = true then Q true M1 else u ds M1 Z Q
@[simp ↓] theorem dOr_eq (t u : TTD) : ∀ ds M Z Q, dOr t u ds M Z Q = (t ds M Z fun c M1 => if c = true then Q true M1 else u ds M1 Z Q) := fun _ _ _ _ => rfl
def dNot (t : TTD) : TTD := fun ds M Z Q => t ds M Z fun c M1 => Q (!c) M1
@[simp ↓] theorem dNot_eq (t : TTD) : ∀ ds M Z Q, dNot t ds M Z Q = (t ds M Z fun c M1 => Q (!c) M1) := fun _ _ _ _ => rfl
theorem w_and1 (ha : PTD X a tA) : PWD X (.BoolOp .And [a] pos) tA := PWD.of (fun W tk => pw_and1 (ha.pt tk)) fun W F σ H ds M Z Q hs ht => ⟨F, ds, M, _, _, hs, ht, fun b H' M' st mm q => ⟨M', st, mm, q⟩⟩
theorem w_or1 (ha : PTD X a tA) : PWD X (.BoolOp .Or [a] pos) tA := PWD.of (fun W tk => pw_or1 (ha.pt tk)) fun W F σ H ds M Z Q hs ht => ⟨F, ds, M, _, _, hs, ht, fun b H' M' st mm q => ⟨M', st, mm, q⟩⟩
theorem w_and (ha : PTD X a tA) (hb : PWD X (.BoolOp .And (b :: rest) pos) tB) : PWD X (.BoolOp .And (a :: b :: rest) pos) (dAnd tA tB) := by
  refine PWD.of (fun W tk => pw_and (ha.pt tk) (hb.pw tk)) fun W F σ H ds M Z Q hs ht => ?_
  refine ⟨F, ds, M, _, _, hs, ht, fun c H1 M1 st mm q => ?_⟩
  cases c with
  | true => exact iteT ⟨F, ds, M1, _, _, hs.to st mm, q, fun b H2 M2 st2 mm2 q2 => ⟨M2, st.trans st2, mm2, q2⟩⟩
  | false => exact iteF ⟨M1, st, mm, q⟩
theorem w_or (ha : PTD X a tA) (hb : PWD X (.BoolOp .Or (b :: rest) pos) tB) : PWD X (.BoolOp .Or (a :: b :: rest) pos) (dOr tA tB) := by
  refine PWD.of (fun W tk => pw_or (ha.pt tk) (hb.pw tk)) fun W F σ H ds M Z Q hs ht => ?_
  refine ⟨F, ds, M, _, _, hs, ht, fun c H1 M1 st mm q => ?_⟩
  cases c with
  | true => exact iteT ⟨M1, st, mm, q⟩
  | false => exact iteF ⟨F, ds, M1, _, _, hs.to st mm, q, fun b H2 M2 st2 mm2 q2 => ⟨M2, st.trans st2, mm2, q2⟩⟩
theorem t_not (ha : PTD X a tA) : PTD X (.UnaryOp .Not a pos) (dNot tA) := PTD.of (fun W tk => pt_not (ha.pt tk)) fun W F σ H ds M Z Q hs ht => ⟨F, ds, M, _, _, hs, ht, fun b H' M' st mm q => ⟨M', st, mm, q⟩⟩
/-- as values -/
def dAndV (ta tb : TD) : TD := fun ds M Z Q => ta ds M Z fun x M1 => match x with | .bl c => if c = true then tb ds M1 Z Q else Q (.bl false) M1 | _ => False
@[simp ↓] theorem dAndV_eq (ta tb : TD) : ∀ ds M Z Q, dAndV ta tb ds M Z Q = (ta ds M Z fun x M1 => match x with | .bl c => if c = true then tb ds M1 Z Q else Q (.bl false) M1 | _ => False) := fun _ _ _ _ => rfl
def dOrV (ta tb : TD) : TD := fun ds M Z Q => ta ds M Z fun x M1 => match x with | .bl c => if c = true then Q (.bl true) M1 else tb ds M1 Z Q | _ => False
@[simp ↓] theorem dOrV_eq (ta tb : TD) : ∀ ds M Z Q, dOrV ta tb ds M Z Q = (ta ds M Z fun x M1 => match x with | .bl c => if c = true then Q (.bl true) M1 else tb ds M1 Z Q | _ => False) := fun _ _ _ _ => rfl
def dNotV (ta : TD) : TD := fun ds M Z Q => ta ds M Z fun x M1 => match x with | .bl c => Q (.bl (!c)) M1 | _ => False
@[simp ↓] theorem dNotV_eq (ta : TD) : ∀ ds M Z Q, dNotV ta ds M Z Q = (ta ds M Z fun x M1 => match x with | .bl c => Q (.bl (!c)) M1 | _ => False) := fun _ _ _ _ => rfl
theorem d_one {op} {t : TD} (h : PD X a t) : PD X (.BoolOp op [a] pos) t := PD.of (fun W tk => pe_one (h.pe tk)) fun W F σ H ds M Z Q hs ht => ⟨F, ds, M, _, _, hs, ht, KQ.eq⟩
theorem d_and (ha : PD X a ta) (hb : PD X (.BoolOp .And (b :: rest) pos) tb) : PD X (.BoolOp .And (a :: b :: rest) pos) (dAndV ta tb) := by
  refine PD.of (fun W tk => pe_and (ha.pe tk) (hb.pe tk)) fun W F σ H ds M Z Q hs ht => ?_
  refine ⟨F, ds, M, _, _, hs, ht, fun v H1 d M1 st mm rp q => ?_⟩
  cases d with
  | bl c =>
    cases rp
    refine ⟨c, rfl, ?_⟩
    cases c with
    | true => exact iteT ⟨F, ds, M1, _, _, hs.to st mm, q, KQ.eq.on st⟩
    | false => exact iteF ((KQ.eq.on st).at mm (.bl false) q)
  | _ => exact (show False from q).elim
theorem d_or (ha : PD X a ta) (hb : PD X (.BoolOp .Or (b :: rest) pos) tb) : PD X (.BoolOp .Or (a :: b :: rest) pos) (dOrV ta tb) := by
  refine PD.of (fun W tk => pe_or (ha.pe tk) (hb.pe tk)) fun W F σ H ds M Z Q hs ht => ?_
  refine ⟨F, ds, M, _, _, hs, ht, fun v H1 d M1 st mm rp q => ?_⟩
  cases d with
  | bl c =>
    cases rp
    refine ⟨c, rfl, ?_⟩
    cases c with
    | true => exact iteT ((KQ.eq.on st).at mm (.bl true) q)
    | false => exact iteF ⟨F, ds, M1, _, _, hs.to st mm, q, KQ.eq.on st⟩
  | _ => exact (show False from q).elim
theorem d_not (ha : PD X a ta) : PD X (.UnaryOp .Not a pos) (dNotV ta) := by
  refine PD.of (fun W tk => pe_not (ha.pe tk)) fun W F σ H ds M Z Q hs ht => ?_
  refine ⟨F, ds, M, _, _, hs, ht, fun v H1 d M1 st mm rp q => ?_⟩
  cases d with
  | bl c =>
    cases rp
    exact ⟨c, rfl, (KQ.eq.on st).at mm (.bl (!c)) q⟩
  | _ => exact (show False from q).elim
def dIf (t : TTD) (ta tb : TD) : TD := fun ds M Z Q => t ds M Z fun c M1 => if c = true then ta ds M1 Z Q else tb ds M1 Z Q
@[simp ↓] theorem dIf_eq (t : TTD) (ta tb : TD) : ∀ ds M Z Q, dIf t ta tb ds M Z Q = (t ds M Z fun c M1 => if c = true then ta ds M1 Z Q else tb ds M1 Z Q) := fun _ _ _ _ => rfl
theorem d_if {c : Expr} (hc : PTD X c tA) (ha : PD X a ta) (hb : PD X b tb) : PD X (.IfExp c a b pos) (dIf tA ta tb) := by
  refine PD.of (fun W tk => pe_ifExp (hc.pt tk) (ha.pe tk) (hb.pe tk)) fun W F σ H ds M Z Q hs ht => ?_
  refine ⟨F, ds, M, _, _, hs, ht, fun c H1 M1 st mm q => ?_⟩
  cases c with
  | true => exact iteT ⟨F, ds, M1, _, _, hs.to st mm, q, KQ.eq.on st⟩
  | false => exact iteF ⟨F, ds, M1, _, _, hs.to st mm, q, KQ.eq.on st⟩

/-! ### displays -/
def dLst (t : TAD) : TD := fun ds M Z Q => t ds M Z fun xs M1 => xs.length ≤ sizeLine ∧ Q (.lst xs) M1
@[simp ↓] theorem dLst_eq (t : TAD) : ∀ ds M Z Q, dLst t ds M Z Q = (t ds M Z fun xs M1 => xs.length ≤ sizeLine ∧ Q (.lst xs) M1) := fun _ _ _ _ => rfl
def dTup (t : TAD) : TD := fun ds M Z Q => t ds M Z fun xs M1 => xs.length ≤ sizeLine ∧ Q (.tup xs) M1
@[simp ↓] theorem dTup_eq (t : TAD) : ∀ ds M Z Q, dTup t ds M Z Q = (t ds M Z fun xs M1 => xs.length ≤ sizeLine ∧ Q (.tup xs) M1) := fun _ _ _ _ => rfl
theorem d_lst {es : List Expr} {t : TAD} (h : PAD X es t) : PD X (.List es pos) (dLst t) := by
  refine PD.of (fun W tk => pe_lst (h.pa tk)) fun W F σ H ds M Z Q hs ht => ?_
  refine ⟨F, ds, M, _, _, hs, ht, fun vs H1 xs M1 st mm rp q => ⟨by rw [rp.len]; exact q.1, fun p hp => ?_⟩⟩
  exact (KQ.eq.on st).newL mm rp q.2 p hp
theorem d_tup {es : List Expr} {k} {t : TAD} (h : PAD X es t) : PD X (.Tuple es k pos) (dTup t) := by
  refine PD.of (fun W tk => pe_tup (h.pa tk)) fun W F σ H ds M Z Q hs ht => ?_
  refine ⟨F, ds, M, _, _, hs, ht, fun vs H1 xs M1 st mm rp q => ⟨by rw [rp.len]; exact q.1, fun p hp => ?_⟩⟩
  exact (KQ.eq.on st).newT mm rp q.2 p hp

/-! ### calls of built-ins, by data -/
abbrev RCD := List D → MM → QD → Prop
def CallD (X : Cx) (f : Value) (r : RCD) : Prop := ∃ rv, CallR X f rv ∧ ∀ F H M vs xs Q QV, RMM X.K F H M → RepA X.K (ak F M) H vs xs → r xs M Q → KQ X.K F H M Q QV → rv vs H QV
def dCB (r : RCD) (t : TAD) : TD := fun ds M Z Q => t ds M Z fun xs M1 => r xs M1 Q
@[simp ↓] theorem dCB_eq (r : RCD) (t : TAD) : ∀ ds M Z Q, dCB r t ds M Z Q = (t ds M Z fun xs M1 => r xs M1 Q) := fun _ _ _ _ => rfl
theorem d_callB {x : Str} {id : String} {e : Expr} {es : List Expr} {t : TAD} {r : RCD} {p pos : Pos} (hc : CallD X (.builtin id) r) (hm : X.mg x = none) (hv : bootBuiltins x = some (.builtin id)) (h : PAD X (e :: es) t) (hg : Gl X x := by rfl)
    (hn : x ≠ "__name__" := by decide) (hdb : (x == ("__debug__" : Str)) = false := by decide) (he : notStar e = true := by rfl) (hpl : noStars es = true := by rfl) : PD X (.Call (.Name x p) (e :: es) [] pos) (dCB r t) := by
  obtain ⟨rv, o, hr⟩ := hc
  refine PD.of (fun W tk => pe_callB o hg hm hv (h.pa tk) hn hdb (star_cons he) (star_any hpl)) fun W F σ H ds M Z Q hs ht => ?_
  exact ⟨F, ds, M, _, _, hs, ht, fun vs H1 xs M1 st mm rp q => hr F H1 M1 vs xs Q _ mm rp q (KQ.eq.on st)⟩
theorem d_callTy {x : Str} {T : String} {e : Expr} {es : List Expr} {t : TAD} {r : RCD} {p pos : Pos} (hc : CallD X (.type T) r) (hm : X.mg x = none) (hv : bootBuiltins x = some (.type T)) (h : PAD X (e :: es) t) (hg : Gl X x := by rfl)
    (hn : x ≠ "__name__" := by decide) (hdb : (x == ("__debug__" : Str)) = false := by decide) (he : notStar e = true := by rfl) (hpl : noStars es = true := by rfl) : PD X (.Call (.Name x p) (e :: es) [] pos) (dCB r t) := by
  obtain ⟨rv, o, hr⟩ := hc
  refine PD.of (fun W tk => pe_callTy o hg hm hv (h.pa tk) hn hdb (star_cons he) (star_any hpl)) fun W F σ H ds M Z Q hs ht => ?_
  exact ⟨F, ds, M, _, _, hs, ht, fun vs H1 xs M1 st mm rp q => hr F H1 M1 vs xs Q _ mm rp q (KQ.eq.on st)⟩
end
end L2.Dl

namespace L2.Dl
open PySem PySem.Spec PyProof.Rows

/-! ### data as the library's -/
mutual
def toPy : D → Option PyData
  | .non => some .none
  | .bl b => some (.bool b)
  | .int i => some (.int i)
  | .str x => some (.str x)
  | .lst xs => (toPyL xs).map .list
  | .tup xs => (toPyL xs).map .tuple
  | _ => none
def toPyL : List D → Option (List PyData)
  | [] => some []
  | x :: r => match toPy x, toPyL r with
    | some p, some q => some (p :: q)
    | _, _ => none
end
def okD (x : D) : Bool := match toPy x with | some p => decide (p.depth ≤ 64) | none => false
def eqD (x y : D) : Bool := match toPy x, toPy y with | some p, some q => PyData.eqv p q | _, _ => false
def inD (x : D) (ys : List D) : Bool := ys.any fun y => eqD y x
mutual
theorem Rep.dp {K : PySem.W.Frag} {B : List Addr} {H : Hp} : ∀ {v : V} {d : D} {p : PyData}, Rep K B H v d → toPy d = some p → Dp K H v p
  | _, _, _, .non, e => by cases e; exact .non
  | _, _, _, .bl b, e => by cases e; exact .bl b
  | _, _, _, .int i, e => by cases e; exact .int i
  | _, _, _, .str x _, e => by cases e; exact .str x
  | _, _, _, .ty n, e => by cases e
  | _, _, _, @Rep.lst _ _ _ a xs ds h r, e => by
    simp only [toPy, Option.map_eq_some_iff] at e
    obtain ⟨q, h1, rfl⟩ := e
    exact .lst h.sq (RepA.dp r h1)
  | _, _, _, @Rep.tup _ _ _ a xs ds h r, e => by
    simp only [toPy, Option.map_eq_some_iff] at e
    obtain ⟨q, h1, rfl⟩ := e
    exact .tup h.sq (RepA.dp r h1)
  | _, _, _, .obj _ _ _, e => by cases e
  | _, _, _, .exn _ _ _ _ _ _ _, e => by cases e
  | _, _, _, .dK _ _ _, e => by cases e
  | _, _, _, .dT _ _ _, e => by cases e
  | _, _, _, .ref a, e => by cases e
  | _, _, _, .glo x, e => by cases e
  | _, _, _, .scr _, e => by cases e
theorem RepA.dp {K : PySem.W.Frag} {B : List Addr} {H : Hp} : ∀ {vs : List V} {ds : List D} {p : List PyData}, RepA K B H vs ds → toPyL ds = some p → DpAll K H vs p
  | _, _, _, .nil, e => by cases e; exact .nil
  | _, _, _, @RepA.cons _ _ _ v vs d ds h r, e => by
    unfold toPyL at e
    cases q1 : toPy d with
    | none => rw [q1] at e; cases e
    | some a =>
      cases q2 : toPyL ds with
      | none => rw [q1, q2] at e; cases e
      | some b =>
        rw [q1, q2] at e
        cases e
        exact .cons (Rep.dp h q1) (RepA.dp r q2)
end

/-! ### what may change -/
def put (M : MM) (a : Addr) (mo : MO) : MM := M.map fun p => if p.1 = a then (a, mo) else p
theorem keys_put (M : MM) (a : Addr) (mo : MO) : keys (put M a mo) = keys M := by
  unfold keys put
  rw [List.map_map]
  refine List.map_congr_left fun p _ => ?_
  show (if p.1 = a then (a, mo) else p).1 = p.1
  split
  · rename_i h; exact h.symm
  · rfl
theorem lookup_mem {M : MM} {a : Addr} {mo : MO} (h : M.lookup a = some mo) : (a, mo) ∈ M := by
  induction M with
  | nil => cases h
  | cons p r ih =>
    obtain ⟨b, q⟩ := p
    by_cases e : (a == b) = true
    · simp only [List.lookup, e] at h
      cases h
      have e' : a = b := by simpa using e
      subst e'
      exact List.mem_cons_self
    · have e' : (a == b) = false := by simpa using e
      simp only [List.lookup, e'] at h
      exact List.mem_cons_of_mem _ (ih h)
theorem lookup_key {M : MM} {a : Addr} {mo : MO} (h : M.lookup a = some mo) : a ∈ keys M := List.mem_map.mpr ⟨_, lookup_mem h, rfl⟩
theorem lookup_put {M : MM} {a : Addr} {mo mo' : MO} (h : M.lookup a = some mo) : (put M a mo').lookup a = some mo' := by
  induction M with
  | nil => cases h
  | cons p r ih =>
    obtain ⟨b, q⟩ := p
    by_cases e : a = b
    · subst e
      show List.lookup a ((if a = a then (a, mo') else (a, q)) :: put r a mo') = some mo'
      rw [if_pos rfl]
      simp [List.lookup]
    · have e' : (a == b) = false := by simpa using e
      simp only [List.lookup, e'] at h
      show List.lookup a ((if b = a then (a, mo') else (b, q)) :: put r a mo') = some mo'
      rw [if_neg (Ne.symm e)]
      simp only [List.lookup, e']
      exact ih h
theorem RMM.get {K : PySem.W.Frag} {F : List Addr} {H : Hp} {M : MM} (m : RMM K F H M) {a : Addr} {mo : MO} (h : M.lookup a = some mo) : RepO K (ak F M) H a mo := m.at_ a mo (lookup_mem h)
/-- a thing is changed -/
theorem stp_put {H : Hp} {B : List Addr} {a : Addr} {o : HO} (h : a ∈ B) : Stp H B (upd H a o) B :=
  ⟨fun b u hb e => by rw [upd_ne (fun z => hb (by rw [z]; exact h))]; exact e, fun b hb => .inl hb⟩
theorem RMM.put {K : PySem.W.Frag} {F : List Addr} {H : Hp} {M : MM} {a : Addr} {o : HO} {mo : MO} (m : RMM K F H M) (h : a ∈ keys M) (r : RepO K (ak F M) (upd H a o) a mo) : RMM K F (upd H a o) (put M a mo) := by
  refine ⟨by rw [keys_put]; exact m.nd, fun b q hb => ?_, fun f hf => ?_⟩
  · unfold ak
    rw [keys_put]
    unfold Dl.put at hb
    obtain ⟨p, hp, e⟩ := List.mem_map.mp hb
    split at e
    · cases e; exact r
    · rename_i hne
      subst e
      exact (m.at_ _ _ hp).step (stp_put h).fix (upd_ne hne)
  · obtain ⟨h1, u, e⟩ := m.fd f hf
    rw [keys_put]
    exact ⟨h1, u, by rw [upd_ne (fun z => h1 (by rw [z]; exact h))]; exact e⟩
/-- what follows a change -/
theorem KQ.put {K : PySem.W.Frag} {F : List Addr} {H : Hp} {M : MM} {Q : QD} {QV : VK} (k : KQ K F H M Q QV) (mm : RMM K F H M) {a : Addr} {o : HO} {mo : MO} {v : V} {d : D} (h : a ∈ keys M) (r : RepO K (ak F M) (upd H a o) a mo) (rv : Rep K (ak F M) (upd H a o) v d) (q : Q d (Dl.put M a mo)) : QV v (upd H a o) := by
  refine k v (upd H a o) d (Dl.put M a mo) ?_ (mm.put h r) ?_ q
  · rw [keys_put]; exact stp_put h
  · unfold ak; rw [keys_put]; exact rv
theorem RMM.putL {K : PySem.W.Frag} {F : List Addr} {H : Hp} {M : MM} {a : Addr} {vs : List V} {xs : List D} (h : a ∈ keys M) (r : RepA K (ak F M) H vs xs) : RepO K (ak F M) (upd H a (.lst vs)) a (.lst xs) := ⟨vs, upd_same, r.step (stp_put h).fix⟩

section
variable {X : Cx} {a b c : Expr} {ta tb tc : TD} {pos : Pos}
/-! ### arithmetic -/
def dI2 (C : Int → Int → Prop) (g : Int → Int → D) : R2D := fun x y M Q => match x, y with | .int i, .int j => C i j ∧ Q (g i j) M | _, _ => False
@[simp ↓] theorem dI2_eq (C : Int → Int → Prop) (g : Int → Int → D) : ∀ x y M Q, dI2 C g x y M Q = (match x, y with | .int i, .int j => C i j ∧ Q (g i j) M | _, _ => False) := fun _ _ _ _ => rfl
theorem opd_I {f : Value → Value → Sem Value} {C : Int → Int → Prop} {g : Int → Int → V} {g' : Int → Int → D} (h : OpR X f (rI C g)) (hg : ∀ B H i j, Rep X.K B H (g i j) (g' i j)) : OpD X f (dI2 C g') := by
  refine ⟨_, h, fun F H M x y dx dy Q QV mm rx ry hr k => ?_⟩
  cases dx with
  | int i =>
    cases dy with
    | int j =>
      cases rx
      cases ry
      exact ⟨i, j, rfl, rfl, hr.1, k.at mm (hg _ _ i j) hr.2⟩
    | _ => exact (show False from hr).elim
  | _ => exact (show False from hr).elim
def dI0 (g : Int → Int → D) : R2D := fun x y M Q => match x, y with | .int i, .int j => Q (g i j) M | _, _ => False
@[simp ↓] theorem dI0_eq (g : Int → Int → D) : ∀ x y M Q, dI0 g x y M Q = (match x, y with | .int i, .int j => Q (g i j) M | _, _ => False) := fun _ _ _ _ => rfl
theorem opd_I0 {f : Value → Value → Sem Value} {g : Int → Int → V} {g' : Int → Int → D} (h : OpR X f (rI0 g)) (hg : ∀ B H i j, Rep X.K B H (g i j) (g' i j)) : OpD X f (dI0 g') := by
  refine ⟨_, h, fun F H M x y dx dy Q QV mm rx ry hr k => ?_⟩
  cases dx with
  | int i =>
    cases dy with
    | int j =>
      cases rx
      cases ry
      exact ⟨i, j, rfl, rfl, k.at mm (hg _ _ i j) hr⟩
    | _ => exact (show False from hr).elim
  | _ => exact (show False from hr).elim
abbrev dSub : R2D := dI0 fun i j => .int (i - j)
theorem o_sub : OpD X (binaryOp .Sub) (dI0 fun i j => .int (i - j)) := opd_I0 op_sub fun _ _ _ _ => .int _
abbrev dMul : R2D := dI2 CMul fun i j => .int (i * j)
theorem o_mul : OpD X (binaryOp .Mult) (dI2 CMul fun i j => .int (i * j)) := opd_I op_mul fun _ _ _ _ => .int _
abbrev dFdiv : R2D := dI2 CDivW fun i j => .int (i / j)
theorem o_fdiv : OpD X (binaryOp .FloorDiv) (dI2 CDivW fun i j => .int (i / j)) := opd_I op_fdivW fun _ _ _ _ => .int _
abbrev dMod : R2D := dI2 (fun _ j => 0 < j) fun i j => .int (i % j)
theorem o_mod : OpD X (binaryOp .Mod) (dI2 (fun _ j => 0 < j) fun i j => .int (i % j)) := opd_I op_mod fun _ _ _ _ => .int _
abbrev dPow : R2D := dI2 CPow fun i j => .int (i ^ j.toNat)
theorem o_pow : OpD X (binaryOp .Pow) (dI2 CPow fun i j => .int (i ^ j.toNat)) := opd_I op_pow fun _ _ _ _ => .int _
/-- + of ints, texts, lists, tuples -/
def dAdd : R2D := fun x y M Q => match x, y with
  | .int i, .int j => Q (.int (i + j)) M
  | .str i, .str j => i.length + j.length ≤ sizeLine ∧ Q (.str (i ++ j)) M
  | .lst xs, .lst ys => xs.length + ys.length ≤ sizeLine ∧ Q (.lst (xs ++ ys)) M
  | .tup xs, .tup ys => xs.length + ys.length ≤ sizeLine ∧ Q (.tup (xs ++ ys)) M
  | _, _ => False
@[simp ↓] theorem dAdd_eq : ∀ x y M Q, dAdd x y M Q = (match x, y with
  | .int i, .int j => Q (.int (i + j)) M
  | .str i, .str j => i.length + j.length ≤ sizeLine ∧ Q (.str (i ++ j)) M
  | .lst xs, .lst ys => xs.length + ys.length ≤ sizeLine ∧ Q (.lst (xs ++ ys)) M
  | .tup xs, .tup ys => xs.length + ys.length ≤ sizeLine ∧ Q (.tup (xs ++ ys)) M
  | _, _ => False) := fun _ _ _ _ => rfl
theorem o_add : OpD X (binaryOp .Add) dAdd := by
  refine ⟨_, op_add.or (op_add_str.or (op_cat.or op_catA)), fun F H M x y dx dy Q QV mm rx ry hr k => ?_⟩
  cases dx with
  | int i =>
    cases dy with
    | int j => cases rx; cases ry; exact .inl ⟨i, j, rfl, rfl, k.at mm (.int _) hr⟩
    | _ => exact (show False from hr).elim
  | str i =>
    cases dy with
    | str j => cases rx with | str _ hx => cases ry with | str _ hy => exact .inr (.inl ⟨i, j, rfl, rfl, hr.1, k.at mm (.str _ (okS_app hx hy)) hr.2⟩)
    | _ => exact (show False from hr).elim
  | lst xs =>
    cases dy with
    | lst ys =>
      cases rx with
      | lst hx rx =>
        cases ry with
        | lst hy ry => exact .inr (.inr (.inl ⟨_, _, _, _, rfl, rfl, hx.2, hy.2, by rw [rx.len, ry.len]; exact hr.1, k.newL mm (rx.append ry) hr.2⟩))
    | _ => exact (show False from hr).elim
  | tup xs =>
    cases dy with
    | tup ys =>
      cases rx with
      | @tup a vs _ hx rx' =>
        cases ry with
        | @tup b ws _ hy ry' =>
          refine .inr (.inr (.inr ⟨a, b, vs, ws, rfl, rfl, hx.sq, hy.sq, by rw [rx'.len, ry'.len]; exact hr.1, fun e => ?_, fun e1 e2 => ?_, fun e1 e2 => k.newT mm (rx'.append ry') hr.2⟩))
          · subst e
            cases rx'
            exact k.at mm (.tup hy ry') hr.2
          · subst e2
            cases ry'
            refine k.at mm (.tup hx rx') ?_
            have q := hr.2
            rw [List.append_nil] at q
            exact q
    | _ => exact (show False from hr).elim
  | _ => exact (show False from hr).elim
/-! ### comparisons -/
def dLtG (fi : Int → Int → Bool) (fs : Str → Str → Bool) : R2D := fun x y M Q => match x, y with
  | .int i, .int j => Q (.bl (fi i j)) M
  | .str i, .str j => Q (.bl (fs i j)) M
  | _, _ => False
@[simp ↓] theorem dLtG_eq (fi : Int → Int → Bool) (fs : Str → Str → Bool) : ∀ x y M Q, dLtG fi fs x y M Q = (match x, y with
  | .int i, .int j => Q (.bl (fi i j)) M
  | .str i, .str j => Q (.bl (fs i j)) M
  | _, _ => False) := fun _ _ _ _ => rfl
theorem opd_lt {op : CmpOp} {fi : Int → Int → Bool} {fs : Str → Str → Bool} (h : OpR X (compareOp op) (rI0 fun i j => .bl (fi i j))) (h2 : OpR X (compareOp op) (fun x y H Q => ∃ i j, x = .str i ∧ y = .str j ∧ Q (.bl (fs i j)) H)) : OpD X (compareOp op) (dLtG fi fs) := by
  refine ⟨_, h.or h2, fun F H M x y dx dy Q QV mm rx ry hr k => ?_⟩
  cases dx with
  | int i =>
    cases dy with
    | int j => cases rx; cases ry; exact .inl ⟨i, j, rfl, rfl, k.at mm (.bl _) hr⟩
    | _ => exact (show False from hr).elim
  | str i =>
    cases dy with
    | str j => cases rx; cases ry; exact .inr ⟨i, j, rfl, rfl, k.at mm (.bl _) hr⟩
    | _ => exact (show False from hr).elim
  | _ => exact (show False from hr).elim
abbrev dLt : R2D := dLtG (fun i j => decide (i < j)) (fun i j => decide (i.cps.toList < j.cps.toList))
abbrev dLe : R2D := dLtG (fun i j => decide (i ≤ j)) (fun i j => !decide (j.cps.toList < i.cps.toList))
abbrev dGt : R2D := dLtG (fun i j => decide (j < i)) (fun i j => decide (j.cps.toList < i.cps.toList))
abbrev dGe : R2D := dLtG (fun i j => decide (j ≤ i)) (fun i j => !decide (i.cps.toList < j.cps.toList))
theorem c_lt : OpD X (compareOp .Lt) dLt := opd_lt op_lt op_lt_str
theorem c_le : OpD X (compareOp .LtE) dLe := opd_lt op_le op_le_str
theorem c_gt : OpD X (compareOp .Gt) dGt := opd_lt op_gt op_gt_str
theorem c_ge : OpD X (compareOp .GtE) dGe := opd_lt op_ge op_ge_str
def dEq : R2D := fun x y M Q => okD x = true ∧ okD y = true ∧ Q (.bl (eqD x y)) M
@[simp ↓] theorem dEq_eq : ∀ x y M Q, dEq x y M Q = (okD x = true ∧ okD y = true ∧ Q (.bl (eqD x y)) M) := fun _ _ _ _ => rfl
def dNe : R2D := fun x y M Q => okD x = true ∧ okD y = true ∧ Q (.bl (!eqD x y)) M
@[simp ↓] theorem dNe_eq : ∀ x y M Q, dNe x y M Q = (okD x = true ∧ okD y = true ∧ Q (.bl (!eqD x y)) M) := fun _ _ _ _ => rfl
theorem okD_some {x : D} (h : okD x = true) : ∃ p, toPy x = some p ∧ p.depth ≤ 64 := by
  unfold okD at h
  split at h
  · rename_i p e; exact ⟨p, e, of_decide_eq_true h⟩
  · cases h
mutual
theorem Rep.lay {K : PySem.W.Frag} {B : List Addr} {H : Hp} : ∀ {v : V} {d : D} {p : PyData}, Rep K B H v d → toPy d = some p → p.canLay0 = true
  | _, _, _, .non, e => by cases e; rfl
  | _, _, _, .bl b, e => by cases e; rfl
  | _, _, _, .int i, e => by cases e; rfl
  | _, _, _, .str x h, e => by cases e; exact h
  | _, _, _, .ty n, e => by cases e
  | _, _, _, @Rep.lst _ _ _ a xs ds h r, e => by
    simp only [toPy, Option.map_eq_some_iff] at e
    obtain ⟨q, h1, rfl⟩ := e
    exact RepA.lay r h1
  | _, _, _, @Rep.tup _ _ _ a xs ds h r, e => by
    simp only [toPy, Option.map_eq_some_iff] at e
    obtain ⟨q, h1, rfl⟩ := e
    exact RepA.lay r h1
  | _, _, _, .obj _ _ _, e => by cases e
  | _, _, _, .exn _ _ _ _ _ _ _, e => by cases e
  | _, _, _, .dK _ _ _, e => by cases e
  | _, _, _, .dT _ _ _, e => by cases e
  | _, _, _, .ref a, e => by cases e
  | _, _, _, .glo x, e => by cases e
  | _, _, _, .scr _, e => by cases e
theorem RepA.lay {K : PySem.W.Frag} {B : List Addr} {H : Hp} : ∀ {vs : List V} {ds : List D} {p : List PyData}, RepA K B H vs ds → toPyL ds = some p → PyData.canLayAll0 p = true
  | _, _, _, .nil, e => by cases e; rfl
  | _, _, _, @RepA.cons _ _ _ v vs d ds h r, e => by
    unfold toPyL at e
    cases q1 : toPy d with
    | none => rw [q1] at e; cases e
    | some a =>
      cases q2 : toPyL ds with
      | none => rw [q1, q2] at e; cases e
      | some b =>
        rw [q1, q2] at e
        cases e
        show (a.canLay0 && PyData.canLayAll0 b) = true
        rw [Rep.lay h q1, RepA.lay r q2]
        rfl
end
theorem shaped_of {p : PyData} (h : p.canLay0 = true) (d : p.depth ≤ 64) : SeqAt.shaped p = true := by
  unfold SeqAt.shaped
  rw [h, decide_eq_true d]
  rfl
theorem c_eq (hu : X.A.units + 64 < cLine) : OpD X (compareOp .Eq) dEq := by
  refine ⟨_, op_eqD hu, fun F H M x y dx dy Q QV mm rx ry hr k => ?_⟩
  obtain ⟨p, e1, s1⟩ := okD_some hr.1
  obtain ⟨q, e2, s2⟩ := okD_some hr.2.1
  refine ⟨p, q, rx.dp e1, ry.dp e2, shaped_of (rx.lay e1) s1, shaped_of (ry.lay e2) s2, k.at mm (.bl _) ?_⟩
  have h := hr.2.2
  unfold eqD at h
  rw [e1, e2] at h
  exact h
theorem c_ne (hu : X.A.units + 64 < cLine) : OpD X (compareOp .NotEq) dNe := by
  refine ⟨_, op_neD hu, fun F H M x y dx dy Q QV mm rx ry hr k => ?_⟩
  obtain ⟨p, e1, s1⟩ := okD_some hr.1
  obtain ⟨q, e2, s2⟩ := okD_some hr.2.1
  refine ⟨p, q, rx.dp e1, ry.dp e2, shaped_of (rx.lay e1) s1, shaped_of (ry.lay e2) s2, k.at mm (.bl _) ?_⟩
  have h := hr.2.2
  unfold eqD at h
  rw [e1, e2] at h
  exact h
/-- is None -/
@[simp] def isN : D → Bool
  | .non => true
  | _ => false
def dIs : R2D := fun x y M Q => match y with | .non => Q (.bl (isN x)) M | _ => False
@[simp ↓] theorem dIs_eq : ∀ x y M Q, dIs x y M Q = (match y with | .non => Q (.bl (isN x)) M | _ => False) := fun _ _ _ _ => rfl
def dIsNot : R2D := fun x y M Q => match y with | .non => Q (.bl (!isN x)) M | _ => False
@[simp ↓] theorem dIsNot_eq : ∀ x y M Q, dIsNot x y M Q = (match y with | .non => Q (.bl (!isN x)) M | _ => False) := fun _ _ _ _ => rfl
theorem Rep.isN {K : PySem.W.Frag} {B : List Addr} {H : Hp} {v : V} {d : D} (r : Rep K B H v d) : decide (v = .non) = Dl.isN d := by
  cases r <;> rfl
theorem c_is : OpD X (compareOp .Is) dIs := by
  refine ⟨_, op_isN, fun F H M x y dx dy Q QV mm rx ry hr k => ?_⟩
  cases dy with
  | non => cases ry; exact ⟨rfl, by rw [rx.isN]; exact k.at mm (.bl _) hr⟩
  | _ => exact (show False from hr).elim
theorem c_isnot : OpD X (compareOp .IsNot) dIsNot := by
  refine ⟨_, op_notN, fun F H M x y dx dy Q QV mm rx ry hr k => ?_⟩
  cases dy with
  | non => cases ry; exact ⟨rfl, by rw [rx.isN]; exact k.at mm (.bl _) hr⟩
  | _ => exact (show False from hr).elim
/-! ### in -/
@[simp] def flatD : D → Bool
  | .non => true | .bl _ => true | .int _ => true | .str _ => true | _ => false
theorem Rep.flat {K : PySem.W.Frag} {B : List Addr} {H : Hp} {v : V} {d : D} (r : Rep K B H v d) (h : flatD d = true) : flatV v = true := by
  cases r <;> first | rfl | cases h
theorem Rep.eqV {K : PySem.W.Frag} {B : List Addr} {H : Hp} {v w : V} {d e : D} (r : Rep K B H v d) (q : Rep K B H w e) (h : flatD d = true) (h' : flatD e = true) : L2.eqV v w = eqD d e := by
  cases r <;> first | (cases h; done) | (cases q <;> first | (cases h'; done) | rfl)
theorem RepA.flat {K : PySem.W.Frag} {B : List Addr} {H : Hp} : ∀ {vs : List V} {ds : List D}, RepA K B H vs ds → ds.all flatD = true → vs.all flatV = true
  | _, _, .nil, _ => rfl
  | _, _, .cons r t, h => by
    rw [List.all_cons, Bool.and_eq_true] at h ⊢
    exact ⟨r.flat h.1, RepA.flat t h.2⟩
theorem RepA.inV {K : PySem.W.Frag} {B : List Addr} {H : Hp} {v : V} {d : D} (r : Rep K B H v d) (hd : flatD d = true) : ∀ {vs : List V} {ds : List D}, RepA K B H vs ds → ds.all flatD = true → L2.inV v vs = inD d ds
  | _, _, .nil, _ => rfl
  | _, _, @RepA.cons _ _ _ w vs e ds q t, h => by
    rw [List.all_cons, Bool.and_eq_true] at h
    show (L2.eqV w v || vs.any fun y => L2.eqV y v) = (eqD e d || ds.any fun y => eqD y d)
    rw [q.eqV r h.1 hd]
    have ih := RepA.inV r hd t h.2
    unfold L2.inV inD at ih
    rw [ih]
def toL (ys : List D) : List PyData := (toPyL ys).getD []
theorem eqD_toPyL {p : PyData} {x : D} (e : toPy x = some p) : ∀ {ys : List D} {qs : List PyData}, toPyL ys = some qs → (qs.any fun z => PyData.eqv z p) = inD x ys
  | [], _, h => by cases h; rfl
  | y :: r, _, h => by
    unfold toPyL at h
    cases q1 : toPy y with
    | none => rw [q1] at h; cases h
    | some a =>
      cases q2 : toPyL r with
      | none => rw [q1, q2] at h; cases h
      | some b =>
        rw [q1, q2] at h
        cases h
        show (PyData.eqv a p || b.any fun z => PyData.eqv z p) = (eqD y x || r.any fun z => eqD z x)
        have h1 : eqD y x = PyData.eqv a p := by
          unfold eqD
          rw [q1, e]
        rw [eqD_toPyL e q2, h1]
        rfl
/-- x in y: a sign in a text; data in a list; flat data in a tuple -/
def dInG (g : Bool → Bool) : R2D := fun x y M Q => match y with
  | .str z => (match x with | .str s => (∃ c, s = ⟨#[c]⟩ ∧ Q (.bl (g (decide (c ∈ z.cps.toList)))) M) | _ => False)
  | .lst ys => okD x = true ∧ okD (.lst ys) = true ∧ Q (.bl (g (inD x ys))) M
  | .tup ys => flatD x = true ∧ ys.all flatD = true ∧ Q (.bl (g (inD x ys))) M
  | _ => False
@[simp ↓] theorem dInG_eq (g : Bool → Bool) : ∀ x y M Q, dInG g x y M Q = (match y with
  | .str z => (match x with | .str s => (∃ c, s = ⟨#[c]⟩ ∧ Q (.bl (g (decide (c ∈ z.cps.toList)))) M) | _ => False)
  | .lst ys => okD x = true ∧ okD (.lst ys) = true ∧ Q (.bl (g (inD x ys))) M
  | .tup ys => flatD x = true ∧ ys.all flatD = true ∧ Q (.bl (g (inD x ys))) M
  | _ => False) := fun _ _ _ _ => rfl
theorem okD_lst {ys : List D} (h : okD (.lst ys) = true) : ∃ qs, toPyL ys = some qs ∧ (PyData.list qs).depth ≤ 64 := by
  obtain ⟨p, e, s⟩ := okD_some h
  simp only [toPy, Option.map_eq_some_iff] at e
  obtain ⟨q, h1, rfl⟩ := e
  exact ⟨q, h1, s⟩
theorem c_in (hu : X.A.units + 65 < cLine) : OpD X (compareOp .In) (dInG id) := by
  refine ⟨_, op_in_sign.or ((op_inD hu).or op_in_seq), fun F H M x y dx dy Q QV mm rx ry hr k => ?_⟩
  cases dy with
  | str z =>
    cases dx with
    | str s =>
      cases rx
      cases ry
      obtain ⟨c, e, q⟩ := hr
      subst e
      exact .inl ⟨c, z, rfl, rfl, k.at mm (.bl _) q⟩
    | _ => exact (show False from hr).elim
  | lst ys =>
    obtain ⟨h1, h2, q⟩ := hr
    obtain ⟨p, e1, s1⟩ := okD_some h1
    obtain ⟨qs, e2, s2⟩ := okD_lst h2
    have e3 : toPy (.lst ys) = some (.list qs) := by simp only [toPy, e2]; rfl
    refine .inr (.inl ⟨p, qs, rx.dp e1, ry.dp e3, shaped_of (rx.lay e1) s1, shaped_of (ry.lay e3) s2, ?_⟩)
    rw [eqD_toPyL e1 e2]
    exact k.at mm (.bl _) q
  | tup ys =>
    obtain ⟨h1, h2, q⟩ := hr
    cases ry with
    | tup hy ry =>
      refine .inr (.inr ⟨_, _, rfl, .inr hy.sq, rx.flat h1, ry.flat h2, ?_⟩)
      rw [if_neg Bool.false_ne_true, RepA.inV rx h1 ry h2]
      exact k.at mm (.bl _) q
  | _ => exact (show False from hr).elim
theorem c_notin (hu : X.A.units + 65 < cLine) : OpD X (compareOp .NotIn) (dInG fun b => !b) := by
  refine ⟨_, op_notIn_sign.or ((op_notInD hu).or op_notIn_seq), fun F H M x y dx dy Q QV mm rx ry hr k => ?_⟩
  cases dy with
  | str z =>
    cases dx with
    | str s =>
      cases rx
      cases ry
      obtain ⟨c, e, q⟩ := hr
      subst e
      exact .inl ⟨c, z, rfl, rfl, k.at mm (.bl _) q⟩
    | _ => exact (show False from hr).elim
  | lst ys =>
    obtain ⟨h1, h2, q⟩ := hr
    obtain ⟨p, e1, s1⟩ := okD_some h1
    obtain ⟨qs, e2, s2⟩ := okD_lst h2
    have e3 : toPy (.lst ys) = some (.list qs) := by simp only [toPy, e2]; rfl
    refine .inr (.inl ⟨p, qs, rx.dp e1, ry.dp e3, shaped_of (rx.lay e1) s1, shaped_of (ry.lay e3) s2, ?_⟩)
    rw [eqD_toPyL e1 e2]
    exact k.at mm (.bl _) q
  | tup ys =>
    obtain ⟨h1, h2, q⟩ := hr
    cases ry with
    | tup hy ry =>
      refine .inr (.inr ⟨_, _, rfl, .inr hy.sq, rx.flat h1, ry.flat h2, ?_⟩)
      rw [if_pos rfl, RepA.inV rx h1 ry h2]
      exact k.at mm (.bl _) q
  | _ => exact (show False from hr).elim

/-! ### subscripts -/
theorem atI_mem {α : Type} {xs : List α} {i : Int} {d : α} (h : L2.atI xs i = some d) : d ∈ xs := by
  unfold L2.atI at h
  cases q : ixN xs.length i with
  | none => rw [q] at h; cases h
  | some j => rw [q] at h; exact List.mem_of_getElem? h
theorem RepA.atI {K : PySem.W.Frag} {B : List Addr} {H : Hp} {vs : List V} {ds : List D} {i : Int} {d : D} (r : RepA K B H vs ds) (h : L2.atI ds i = some d) : ∃ v, L2.atI vs i = some v ∧ Rep K B H v d := by
  unfold L2.atI at h ⊢
  rw [r.len]
  cases q : ixN ds.length i with
  | none => rw [q] at h; cases h
  | some j =>
    rw [q] at h
    obtain ⟨v, h1, h2⟩ := r.get (show ds[j]? = some d from h)
    exact ⟨v, h1, h2⟩
def dIx : R2D := fun x y M Q => match y with
  | .int i => (match x with
    | .lst xs => optK (L2.atI xs i) fun d => Q d M
    | .tup xs => optK (L2.atI xs i) fun d => Q d M
    | .str z => z.length ≤ sizeLine ∧ optK (L2.atI z.cps.toList i) fun c => Q (.str ⟨#[c]⟩) M
    | .ref a => lstK (M.lookup a) fun xs => optK (L2.atI xs i) fun d => Q d M
    | _ => False)
  | _ => False
@[simp ↓] theorem dIx_eq : ∀ x y M Q, dIx x y M Q = (match y with
  | .int i => (match x with
    | .lst xs => optK (L2.atI xs i) fun d => Q d M
    | .tup xs => optK (L2.atI xs i) fun d => Q d M
    | .str z => z.length ≤ sizeLine ∧ optK (L2.atI z.cps.toList i) fun c => Q (.str ⟨#[c]⟩) M
    | .ref a => lstK (M.lookup a) fun xs => optK (L2.atI xs i) fun d => Q d M
    | _ => False)
  | _ => False) := fun _ _ _ _ => rfl
theorem d_ix (ha : PD X a ta) (hb : PD X b tb) (hs : PlainIx b := by exact fun _ _ => rfl) : PD X (.Subscript a b pos) (dOp dIx ta tb) := by
  refine PD.of (fun W tk => pe_ix ix_seq (ha.pe tk) (hb.pe tk) hs) fun W F σ H ds M Z Q hst ht => ?_
  refine two ?_ hst ht KQ.eq
  intro F H M x y dx dy Q QV mm rx ry hr k
  cases dy with
  | int i =>
    cases ry
    cases dx with
    | lst xs =>
      cases rx with
      | lst hx rx =>
        have hr : optK (L2.atI xs i) (fun d => Q d M) := hr
        unfold optK at hr
        split at hr
        · rename_i d e
          obtain ⟨v, h1, h2⟩ := rx.atI e
          exact .inl ⟨_, _, i, v, rfl, rfl, hx.sq, h1, k.at mm h2 hr⟩
        · exact hr.elim
    | tup xs =>
      cases rx with
      | tup hx rx =>
        have hr : optK (L2.atI xs i) (fun d => Q d M) := hr
        unfold optK at hr
        split at hr
        · rename_i d e
          obtain ⟨v, h1, h2⟩ := rx.atI e
          exact .inr (.inl ⟨_, _, i, v, rfl, rfl, hx.sq, h1, k.at mm h2 hr⟩)
        · exact hr.elim
    | str z =>
      have hxz : PyData.strOk z = true := by cases rx with | str _ h => exact h
      cases rx
      obtain ⟨hz, hr⟩ := hr
      unfold optK at hr
      split at hr
      · rename_i c e
        exact .inr (.inr ⟨z, i, c, rfl, rfl, hz, e, k.at mm (.str _ (okS_one hxz (atI_mem e))) hr⟩)
      · exact hr.elim
    | ref p =>
      cases rx
      have hr : lstK (M.lookup p) (fun xs => optK (L2.atI xs i) fun d => Q d M) := hr
      unfold lstK optK at hr
      split at hr
      · rename_i xs e
        obtain ⟨vs, h1, h2⟩ := mm.get e
        split at hr
        · rename_i d e2
          obtain ⟨v, h3, h4⟩ := h2.atI e2
          exact .inl ⟨_, _, i, v, rfl, rfl, .inl (.inl h1), h3, k.at mm h4 hr⟩
        · exact hr.elim
      · exact hr.elim
    | _ => exact (show False from hr).elim
  | _ => exact (show False from hr).elim
/-! ### len, abs, int, list, all .. -/
def dLen : RCD := fun xs M Q => match xs with
  | [.str z] => z.length ≤ sizeLine ∧ Q (.int z.length) M
  | [.lst ys] => Q (.int ys.length) M
  | [.tup ys] => Q (.int ys.length) M
  | [.ref a] => lstK (M.lookup a) fun ys => Q (.int ys.length) M
  | _ => False
@[simp ↓] theorem dLen_eq : ∀ xs M Q, dLen xs M Q = (match xs with
  | [.str z] => z.length ≤ sizeLine ∧ Q (.int z.length) M
  | [.lst ys] => Q (.int ys.length) M
  | [.tup ys] => Q (.int ys.length) M
  | [.ref a] => lstK (M.lookup a) fun ys => Q (.int ys.length) M
  | _ => False) := fun _ _ _ => rfl
theorem repA1 {K : PySem.W.Frag} {B : List Addr} {H : Hp} {vs : List V} {d : D} (r : RepA K B H vs [d]) : ∃ v, vs = [v] ∧ Rep K B H v d := by
  cases r with
  | cons h t => cases t; exact ⟨_, rfl, h⟩
theorem repA2 {K : PySem.W.Frag} {B : List Addr} {H : Hp} {vs : List V} {d e : D} (r : RepA K B H vs [d, e]) : ∃ v w, vs = [v, w] ∧ Rep K B H v d ∧ Rep K B H w e := by
  cases r with
  | cons h t =>
    obtain ⟨w, rfl, h2⟩ := repA1 t
    exact ⟨_, w, rfl, h, h2⟩
theorem k_len : CallD X (.builtin "len") dLen := by
  refine ⟨_, call_len, fun F H M vs xs Q QV mm rp hr k => ?_⟩
  match xs, hr with
  | [.str z], hr => obtain ⟨v, rfl, r⟩ := repA1 rp; cases r; exact ⟨_, _, rfl, ⟨hr.1, rfl⟩, k.at mm (.int _) hr.2⟩
  | [.lst ys], hr =>
    obtain ⟨v, rfl, r⟩ := repA1 rp
    cases r with
    | lst hx r => exact ⟨_, _, rfl, .inl ⟨_, hx.sq, rfl⟩, by rw [r.len]; exact k.at mm (.int _) hr⟩
  | [.tup ys], hr =>
    obtain ⟨v, rfl, r⟩ := repA1 rp
    cases r with
    | tup hx r => exact ⟨_, _, rfl, .inr ⟨_, hx.sq, rfl⟩, by rw [r.len]; exact k.at mm (.int _) hr⟩
  | [.ref a], hr =>
    obtain ⟨v, rfl, r⟩ := repA1 rp
    cases r
    have hr : lstK (M.lookup a) (fun ys => Q (.int ys.length) M) := hr
    unfold lstK at hr
    split at hr
    · rename_i ys e
      obtain ⟨ws, h1, h2⟩ := mm.get e
      exact ⟨_, _, rfl, .inl ⟨_, .inl (.inl h1), rfl⟩, by rw [h2.len]; exact k.at mm (.int _) hr⟩
    · exact hr.elim
def dAbs : RCD := fun xs M Q => match xs with | [.int i] => Q (.int (if i < 0 then -i else i)) M | _ => False
@[simp ↓] theorem dAbs_eq : ∀ xs M Q, dAbs xs M Q = (match xs with | [.int i] => Q (.int (if i < 0 then -i else i)) M | _ => False) := fun _ _ _ => rfl
theorem k_abs : CallD X (.builtin "abs") dAbs := by
  refine ⟨_, call_abs, fun F H M vs xs Q QV mm rp hr k => ?_⟩
  match xs, hr with
  | [.int i], hr => obtain ⟨v, rfl, r⟩ := repA1 rp; cases r; exact ⟨i, rfl, k.at mm (.int _) hr⟩
def dIntC : RCD := fun xs M Q => match xs with | [.int i] => Q (.int i) M | [.bl b] => Q (.int (if b then 1 else 0)) M | _ => False
@[simp ↓] theorem dIntC_eq : ∀ xs M Q, dIntC xs M Q = (match xs with | [.int i] => Q (.int i) M | [.bl b] => Q (.int (if b then 1 else 0)) M | _ => False) := fun _ _ _ => rfl
theorem k_int : CallD X (.type "int") dIntC := by
  refine ⟨_, call_int1, fun F H M vs xs Q QV mm rp hr k => ?_⟩
  match xs, hr with
  | [.int i], hr => obtain ⟨v, rfl, r⟩ := repA1 rp; cases r; exact .inl ⟨i, rfl, k.at mm (.int _) hr⟩
  | [.bl b], hr => obtain ⟨v, rfl, r⟩ := repA1 rp; cases r; exact .inr ⟨b, rfl, k.at mm (.int _) hr⟩
def dListC : RCD := fun xs M Q => match xs with
  | [.lst ys] => Q (.lst ys) M
  | [.tup ys] => Q (.lst ys) M
  | [.ref a] => lstK (M.lookup a) fun ys => Q (.lst ys) M
  | _ => False
@[simp ↓] theorem dListC_eq : ∀ xs M Q, dListC xs M Q = (match xs with
  | [.lst ys] => Q (.lst ys) M
  | [.tup ys] => Q (.lst ys) M
  | [.ref a] => lstK (M.lookup a) fun ys => Q (.lst ys) M
  | _ => False) := fun _ _ _ => rfl
theorem k_list : CallD X (.type "list") dListC := by
  refine ⟨_, call_list_of, fun F H M vs xs Q QV mm rp hr k => ?_⟩
  match xs, hr with
  | [.lst ys], hr =>
    obtain ⟨v, rfl, r⟩ := repA1 rp
    cases r with
    | lst hx r => exact ⟨_, _, rfl, .inl hx.sq, k.newL mm r hr⟩
  | [.tup ys], hr =>
    obtain ⟨v, rfl, r⟩ := repA1 rp
    cases r with
    | tup hx r => exact ⟨_, _, rfl, .inr hx.sq, k.newL mm r hr⟩
  | [.ref a], hr =>
    obtain ⟨v, rfl, r⟩ := repA1 rp
    cases r
    have hr : lstK (M.lookup a) (fun ys => Q (.lst ys) M) := hr
    unfold lstK at hr
    split at hr
    · rename_i ys e
      obtain ⟨ws, h1, h2⟩ := mm.get e
      exact ⟨_, _, rfl, .inl (.inl (.inl h1)), k.newL mm h2 hr⟩
    · exact hr.elim
def dTupC : RCD := fun xs M Q => match xs with
  | [.lst ys] => Q (.tup ys) M
  | [.tup ys] => Q (.tup ys) M
  | _ => False
@[simp ↓] theorem dTupC_eq : ∀ xs M Q, dTupC xs M Q = (match xs with
  | [.lst ys] => Q (.tup ys) M
  | [.tup ys] => Q (.tup ys) M
  | _ => False) := fun _ _ _ => rfl
theorem k_tuple : CallD X (.type "tuple") dTupC := by
  refine ⟨_, call_tuple_of, fun F H M vs xs Q QV mm rp hr k => ?_⟩
  match xs, hr with
  | [.lst ys], hr =>
    obtain ⟨v, rfl, r⟩ := repA1 rp
    cases r with
    | lst hx r => exact ⟨_, _, rfl, .inl ⟨hx.sq, k.newT mm r hr⟩⟩
  | [.tup ys], hr =>
    obtain ⟨v, rfl, r⟩ := repA1 rp
    cases r with
    | tup hx r => exact ⟨_, _, rfl, .inr ⟨hx.sq, k.at mm (.tup hx r) hr⟩⟩
@[simp] def boolsD : List D → Option (List Bool)
  | [] => some []
  | .bl b :: r => (boolsD r).map (b :: ·)
  | _ => none
theorem boolsD_map (bs : List Bool) : boolsD (bs.map D.bl) = some bs := by
  induction bs with
  | nil => rfl
  | cons b r ih => show (boolsD (r.map D.bl)).map (b :: ·) = _; rw [ih]; rfl
theorem RepA.bools {K : PySem.W.Frag} {B : List Addr} {H : Hp} : ∀ {vs : List V} {ds : List D} {bs : List Bool}, RepA K B H vs ds → boolsD ds = some bs → vs = bs.map V.bl
  | _, _, _, .nil, e => by cases e; rfl
  | _, _, _, @RepA.cons _ _ _ v vs d ds h r, e => by
    cases d with
    | bl b =>
      cases h
      simp only [boolsD, Option.map_eq_some_iff] at e
      obtain ⟨q, h1, rfl⟩ := e
      rw [RepA.bools r h1]
      rfl
    | _ => cases e
def dAllG (g : List Bool → Bool) : RCD := fun xs M Q => match xs with
  | [.lst ys] => optK (boolsD ys) fun bs => Q (.bl (g bs)) M
  | _ => False
@[simp ↓] theorem dAllG_eq (g : List Bool → Bool) : ∀ xs M Q, dAllG g xs M Q = (match xs with
  | [.lst ys] => optK (boolsD ys) fun bs => Q (.bl (g bs)) M
  | _ => False) := fun _ _ _ => rfl
theorem k_all (hc : X.calm = true) : CallD X (.builtin "all") (dAllG fun bs => bs.all id) := by
  refine ⟨_, cr_all hc, fun F H M vs xs Q QV mm rp hr k => ?_⟩
  match xs, hr with
  | [.lst ys], hr =>
    obtain ⟨v, rfl, r⟩ := repA1 rp
    have hr : optK (boolsD ys) (fun bs => Q (.bl (bs.all id)) M) := hr
    unfold optK at hr
    split at hr
    · rename_i bs e
      cases r with
      | lst hx r =>
        have e2 := r.bools e
        subst e2
        exact ⟨_, bs, rfl, hx.sq, k.at mm (.bl _) hr⟩
    · exact hr.elim
theorem k_any (hc : X.calm = true) : CallD X (.builtin "any") (dAllG fun bs => bs.any id) := by
  refine ⟨_, cr_any hc, fun F H M vs xs Q QV mm rp hr k => ?_⟩
  match xs, hr with
  | [.lst ys], hr =>
    obtain ⟨v, rfl, r⟩ := repA1 rp
    have hr : optK (boolsD ys) (fun bs => Q (.bl (bs.any id)) M) := hr
    unfold optK at hr
    split at hr
    · rename_i bs e
      cases r with
      | lst hx r =>
        have e2 := r.bools e
        subst e2
        exact ⟨_, bs, rfl, hx.sq, k.at mm (.bl _) hr⟩
    · exact hr.elim
end
end L2.Dl

namespace L2.Dl
open PySem PySem.Spec PyProof.Rows

/-! ### statements -/
structure EndsD where
  nx : SD → MM → Prop
  rt : QD
  bk : SD → MM → Prop := fun _ _ => False
  ct : SD → MM → Prop := fun _ _ => False
  xc : Str → List (Str × D) → SD → MM → Prop := fun _ _ _ _ => False
abbrev EndsD.xd (E : EndsD) (ds : SD) : XD := fun C fs M => E.xc C fs ds M
abbrev TSD := EndsD → SD → MM → Prop
structure Sts (K : PySem.W.Frag) (F : List Addr) (H : Hp) (σ : L2.St) (ds : SD) (M : MM) : Prop where
  mm : RMM K F H M
  sl : RSl K (ak F M) H σ ds
theorem Sts.to {K : PySem.W.Frag} {F : List Addr} {H H' : Hp} {σ : L2.St} {ds : SD} {M M' : MM} (h : Sts K F H σ ds M) (s : Stp H (keys M) H' (keys M')) (m : RMM K F H' M') : Sts K F H' σ ds M' := ⟨m, h.sl.step s.fix⟩
/-- what is wished of an error, with the slots -/
def KWS (K : PySem.W.Frag) (F : List Addr) (H : Hp) (M : MM) (zc : Str → List (Str × D) → SD → MM → Prop) (W : WX) : Prop := ∀ C fs vs d σ' ds' H' M', Stp H (keys M) H' (keys M') → Sts K F H' σ' ds' M' → H' d = some (.xd vs) → d ∉ ak F M' → RepF K (ak F M') H' Str vs fs → zc C fs ds' M' → W (.ref (He.ga K C)) (some d) σ' H'
theorem KWS.on {K : PySem.W.Frag} {F : List Addr} {H H1 : Hp} {M M1 : MM} {zc : Str → List (Str × D) → SD → MM → Prop} {W : WX} (k : KWS K F H M zc W) (s : Stp H (keys M) H1 (keys M1)) : KWS K F H1 M1 zc W := fun C fs vs d σ' ds' H' M' st tt e n r q => k C fs vs d σ' ds' H' M' (s.trans st) tt e n r q
theorem Sts.ex {K : PySem.W.Frag} {F : List Addr} {H : Hp} {σ : L2.St} {ds : SD} {M : MM} {E : EndsD} {W : WX} (h : Sts K F H σ ds M) (k : KWS K F H M E.xc W) : Stt K W F H σ ds M (E.xd ds) := ⟨h.mm, h.sl, fun C fs vs d H' M' st mm e n r q => k C fs vs d σ ds H' M' st (h.to st mm) e n r q⟩
theorem Stt.st {K : PySem.W.Frag} {W : WX} {F : List Addr} {H : Hp} {σ : L2.St} {ds : SD} {M : MM} {Z : XD} (h : Stt K W F H σ ds M Z) : Sts K F H σ ds M := ⟨h.mm, h.sl⟩
/-- what the slots and the heap are behind it -/
def KS (K : PySem.W.Frag) (F : List Addr) (H : Hp) (M : MM) (P : SD → MM → Prop) (PV : L2.St → Hp → Prop) : Prop := ∀ σ' H' ds' M', Stp H (keys M) H' (keys M') → Sts K F H' σ' ds' M' → P ds' M' → PV σ' H'
theorem KS.on {K : PySem.W.Frag} {F : List Addr} {H H1 : Hp} {M M1 : MM} {P : SD → MM → Prop} {PV : L2.St → Hp → Prop} (k : KS K F H M P PV) (s : Stp H (keys M) H1 (keys M1)) : KS K F H1 M1 P PV := fun σ' H' ds' M' st tt q => k σ' H' ds' M' (s.trans st) tt q
structure KE (K : PySem.W.Frag) (W : WX) (F : List Addr) (H : Hp) (M : MM) (E : EndsD) (D : Ends) : Prop where
  nx : KS K F H M E.nx D.nx
  rt : KQ K F H M E.rt D.rt
  bk : KS K F H M E.bk D.bk
  ct : KS K F H M E.ct D.ct
  xc : KWS K F H M E.xc W
theorem KE.on {K : PySem.W.Frag} {W : WX} {F : List Addr} {H H1 : Hp} {M M1 : MM} {E : EndsD} {D : Ends} (k : KE K W F H M E D) (s : Stp H (keys M) H1 (keys M1)) : KE K W F H1 M1 E D := ⟨k.nx.on s, k.rt.on s, k.bk.on s, k.ct.on s, k.xc.on s⟩
def ES (K : PySem.W.Frag) (F : List Addr) (H : Hp) (M : MM) (P : SD → MM → Prop) : L2.St → Hp → Prop := fun σ' H' => ∃ ds' M', Stp H (keys M) H' (keys M') ∧ Sts K F H' σ' ds' M' ∧ P ds' M'
theorem KS.es {K : PySem.W.Frag} {F : List Addr} {H : Hp} {M : MM} {P : SD → MM → Prop} : KS K F H M P (ES K F H M P) := fun _ _ ds' M' st tt q => ⟨ds', M', st, tt, q⟩
def EE (K : PySem.W.Frag) (F : List Addr) (H : Hp) (M : MM) (E : EndsD) : Ends := { nx := ES K F H M E.nx, rt := EQ K F H M E.rt, bk := ES K F H M E.bk, ct := ES K F H M E.ct }
theorem KE.ee {K : PySem.W.Frag} {W : WX} {F : List Addr} {H : Hp} {M : MM} {E : EndsD} (k : KWS K F H M E.xc W) : KE K W F H M E (EE K F H M E) := ⟨KS.es, KQ.eq, KS.es, KS.es, k⟩
def tsOf (K : PySem.W.Frag) (W : WX) (t : TSD) : TS := fun D σ H => ∃ F ds M E, Sts K F H σ ds M ∧ t E ds M ∧ KE K W F H M E D
def SPD (X : Cx) (F : List Addr) (pins : List (Addr × Obj)) (H : Hp) (M : MM) (E : EndsD) (f : Flow) (s' : Shared) : Prop := SP X pins (EE X.K F H M E) f s'
structure PSD (X : Cx) (st : Stmt) (t : TSD) : Prop where
  run : ∀ (W : WX), Takes X W → ∀ (F : List Addr) (pins : List (Addr × Obj)) (s : Shared) (σ : L2.St) (H : Hp) (ds : SD) (M : MM) (E : EndsD), Inv X pins σ H s → Sts X.K F H σ ds M → KWS X.K F H M E.xc W → t E ds M → wpAny (model X.prog X.w) X.A (exec st X.env) (SPD X F pins H M E) X.xe s
structure PSsD (X : Cx) (st : List Stmt) (t : TSD) : Prop where
  run : ∀ (W : WX), Takes X W → ∀ (F : List Addr) (pins : List (Addr × Obj)) (s : Shared) (σ : L2.St) (H : Hp) (ds : SD) (M : MM) (E : EndsD), Inv X pins σ H s → Sts X.K F H σ ds M → KWS X.K F H M E.xc W → t E ds M → wpAny (model X.prog X.w) X.A (execs st X.env) (SPD X F pins H M E) X.xe s
theorem SP.weak {X : Cx} {pins : List (Addr × Obj)} {K : PySem.W.Frag} {W : WX} {F : List Addr} {H : Hp} {M : MM} {E : EndsD} {D : Ends} {f : Flow} {s' : Shared} (k : KE K W F H M E D) (h : SP X pins (EE K F H M E) f s') : SP X pins D f s' := by
  cases f with
  | next => obtain ⟨σ', H', I, ds', M', st, tt, q⟩ := h; exact ⟨σ', H', I, k.nx σ' H' ds' M' st tt q⟩
  | brk => obtain ⟨σ', H', I, ds', M', st, tt, q⟩ := h; exact ⟨σ', H', I, k.bk σ' H' ds' M' st tt q⟩
  | cont => obtain ⟨σ', H', I, ds', M', st, tt, q⟩ := h; exact ⟨σ', H', I, k.ct σ' H' ds' M' st tt q⟩
  | ret u => obtain ⟨v, σ', H', I, r, d, M', st, mm, rp, q⟩ := h; exact ⟨v, σ', H', I, r, k.rt v H' d M' st mm rp q⟩
theorem PSD.ps {X : Cx} {W : WX} {st : Stmt} {t : TSD} (h : PSD X st t) (tk : Takes X W) : PS X st (tsOf X.K W t) := by
  refine ⟨fun pins s σ H D I hw => ?_⟩
  obtain ⟨F, ds, M, E, hs, ht, k⟩ := hw
  exact thn (h.run W tk F pins s σ H ds M E I hs k.xc ht) fun f s' q => SP.weak k q
theorem PSsD.ps {X : Cx} {W : WX} {st : List Stmt} {t : TSD} (h : PSsD X st t) (tk : Takes X W) : PSs X st (tsOf X.K W t) := by
  refine ⟨fun pins s σ H D I hw => ?_⟩
  obtain ⟨F, ds, M, E, hs, ht, k⟩ := hw
  exact thn (h.run W tk F pins s σ H ds M E I hs k.xc ht) fun f s' q => SP.weak k q
theorem PSD.of {X : Cx} {st : Stmt} {ts : WX → TS} {t : TSD} (h : ∀ W, Takes X W → PS X st (ts W)) (hi : ∀ W F σ H ds M E, Sts X.K F H σ ds M → KWS X.K F H M E.xc W → t E ds M → ts W (EE X.K F H M E) σ H) : PSD X st t := ⟨fun W tk F pins s σ H ds M E I hs kx ht => (h W tk).run pins s σ H _ I (hi W F σ H ds M E hs kx ht)⟩
theorem PSsD.of {X : Cx} {st : List Stmt} {ts : WX → TS} {t : TSD} (h : ∀ W, Takes X W → PSs X st (ts W)) (hi : ∀ W F σ H ds M E, Sts X.K F H σ ds M → KWS X.K F H M E.xc W → t E ds M → ts W (EE X.K F H M E) σ H) : PSsD X st t := ⟨fun W tk F pins s σ H ds M E I hs kx ht => (h W tk).run pins s σ H _ I (hi W F σ H ds M E hs kx ht)⟩

section
variable {X : Cx} {st : Stmt} {rest : List Stmt} {t u : TSD} {e : Expr} {te : TD} {pos : Pos}
def dNext : TSD := fun E ds M => E.nx ds M
@[simp ↓] theorem dNext_eq : ∀ E ds M, dNext E ds M = (E.nx ds M) := fun _ _ _ => rfl
/-- what follows is not looked into by itself -/
def cut (t : TSD) : TSD := t
theorem cut_eq (t : TSD) (E : EndsD) (ds : SD) (M : MM) : cut t E ds M = t E ds M := rfl
theorem cut_go {t : TSD} {E : EndsD} {ds : SD} {M : MM} (h : t E ds M) : cut t E ds M := h
def dSeq (t u : TSD) : TSD := fun E ds M => t { E with nx := cut u E } ds M
@[simp ↓] theorem dSeq_eq (t u : TSD) : ∀ E ds M, dSeq t u E ds M = (t { E with nx := cut u E } ds M) := fun _ _ _ => rfl
theorem s_nil : PSsD X [] dNext := PSsD.of (fun W tk => pss_nil) fun W F σ H ds M E hs kx ht => ⟨ds, M, .refl _ _, hs, ht⟩
theorem s_cons (h1 : PSD X st t) (h2 : PSsD X rest u) : PSsD X (st :: rest) (dSeq t u) := by
  refine PSsD.of (fun W tk => pss_cons (h1.ps tk) (h2.ps tk)) fun W F σ H ds M E hs kx ht => ?_
  refine ⟨F, ds, M, _, hs, ht, ⟨fun σ' H' ds' M' s1 tt q => ?_, KQ.eq, KS.es, KS.es, kx⟩⟩
  exact ⟨F, ds', M', E, tt, q, (KE.ee kx).on s1⟩
theorem s_one (h1 : PSD X st t) : PSsD X [st] t := PSsD.of (fun W tk => pss_one (h1.ps tk)) fun W F σ H ds M E hs kx ht => ⟨F, ds, M, E, hs, ht, KE.ee kx⟩
theorem s_pass : PSD X (.Pass pos) dNext := PSD.of (fun W tk => ps_pass) fun W F σ H ds M E hs kx ht => ⟨ds, M, .refl _ _, hs, ht⟩
def dBreak : TSD := fun E ds M => E.bk ds M
@[simp ↓] theorem dBreak_eq : ∀ E ds M, dBreak E ds M = (E.bk ds M) := fun _ _ _ => rfl
def dCont : TSD := fun E ds M => E.ct ds M
@[simp ↓] theorem dCont_eq : ∀ E ds M, dCont E ds M = (E.ct ds M) := fun _ _ _ => rfl
theorem s_break : PSD X (.Break pos) dBreak := PSD.of (fun W tk => ps_break) fun W F σ H ds M E hs kx ht => ⟨ds, M, .refl _ _, hs, ht⟩
theorem s_continue : PSD X (.Continue pos) dCont := PSD.of (fun W tk => ps_continue) fun W F σ H ds M E hs kx ht => ⟨ds, M, .refl _ _, hs, ht⟩
def dDrop (te : TD) : TSD := fun E ds M => te ds M (E.xd ds) fun _ M1 => E.nx ds M1
@[simp ↓] theorem dDrop_eq (te : TD) : ∀ E ds M, dDrop te E ds M = (te ds M (E.xd ds) fun _ M1 => E.nx ds M1) := fun _ _ _ => rfl
theorem s_expr (he : PD X e te) (hs : swapsWith e none pos.line X.env = pure false := by rfl) : PSD X (.Expr e pos) (dDrop te) :=
  PSD.of (fun W tk => ps_expr (he.pe tk) hs) fun W F σ H ds M E hs kx ht => ⟨F, ds, M, _, _, (hs.ex kx), ht, fun v H' d M' st mm rp q => ⟨ds, M', st, hs.to st mm, q⟩⟩
def dRet (te : TD) : TSD := fun E ds M => te ds M (E.xd ds) E.rt
@[simp ↓] theorem dRet_eq (te : TD) : ∀ E ds M, dRet te E ds M = (te ds M (E.xd ds) E.rt) := fun _ _ _ => rfl
theorem s_ret (he : PD X e te) : PSD X (.Return (some e) pos) (dRet te) := PSD.of (fun W tk => ps_ret (he.pe tk)) fun W F σ H ds M E hs kx ht => ⟨F, ds, M, _, _, (hs.ex kx), ht, KQ.eq⟩
def dRetN : TSD := fun E _ M => E.rt .non M
@[simp ↓] theorem dRetN_eq : ∀ E w1 M, dRetN E w1 M = (E.rt .non M) := fun _ _ _ => rfl
theorem s_retN : PSD X (.Return none pos) dRetN := PSD.of (fun W tk => ps_retN) fun W F σ H ds M E hs kx ht => KQ.eq.at hs.mm .non ht
def dIfS (c : TTD) (t u : TSD) : TSD := fun E ds M => c ds M (E.xd ds) fun b M1 => if b = true then t E ds M1 else u E ds M1
@[simp ↓] theorem dIfS_eq (c : TTD) (t u : TSD) : ∀ E ds M, dIfS c t u E ds M = (c ds M (E.xd ds) fun b M1 => if b = true then t E ds M1 else u E ds M1) := fun _ _ _ => rfl
theorem s_if {c : Expr} {a b : List Stmt} {tc : TTD} (hc : PTD X c tc) (ha : PSsD X a t) (hb : PSsD X b u) : PSD X (.If c a b pos) (dIfS tc t u) := by
  refine PSD.of (fun W tk => ps_if (hc.pt tk) (ha.ps tk) (hb.ps tk)) fun W F σ H ds M E hs kx ht => ?_
  refine ⟨F, ds, M, _, _, (hs.ex kx), ht, fun b H1 M1 st mm q => ?_⟩
  cases b with
  | true => exact iteT ⟨F, ds, M1, E, hs.to st mm, q, (KE.ee kx).on st⟩
  | false => exact iteF ⟨F, ds, M1, E, hs.to st mm, q, (KE.ee kx).on st⟩
def dNever : TSD := fun _ _ _ => False
theorem s_never : PSD X st dNever := ⟨fun _ _ _ _ _ _ _ _ _ _ _ _ _ h => h.elim⟩

/-! ### targets -/
theorem asg_cons {e : Expr} {es : List Expr} {env : Env} (h : notStar e = true) : assignEach (e :: es) env = (false, assign e env) :: assignEach es env := by
  cases e <;> first | (simp [notStar] at h; done) | simp [assignEach]
theorem asg_each {es : List Expr} {env : Env} (h : noStars es = true) : assignEach es env = es.map fun e => (false, assign e env) := by
  induction es with
  | nil => simp [assignEach]
  | cons e r ih =>
    have h := Bool.and_eq_true_iff.mp (show (notStar e && r.all notStar) = true from h)
    rw [asg_cons h.1, ih h.2]
    rfl
theorem asg_none {es : List Expr} {env : Env} : (es.map fun e => (false, assign e env)).findIdx? (·.1) = none := by
  rw [List.findIdx?_eq_none_iff]
  intro x hx
  obtain ⟨e, _, rfl⟩ := List.mem_map.mp hx
  rfl

inductive Tgt where
  | one (i : Nat) | tup (is : List Nat)
@[simp] def setAll : List Nat → List D → SD → SD
  | i :: is, x :: xs, ds => setAll is xs (ds.set i (some x))
  | _, _, ds => ds
@[simp] def setT (g : Tgt) (d : D) (ds : SD) : Option SD := match g with
  | .one i => some (ds.set i (some d))
  | .tup is => match d with
    | .tup xs => if xs.length = is.length then some (setAll is xs ds) else none
    | _ => none
def gNames : List Nat → TGs
  | [] => gNil
  | i :: is => gCons (gName i) (gNames is)
def tgV (K : PySem.W.Frag) : Tgt → TG
  | .one i => gName i
  | .tup is => gTup K is.length (gNames is)
def Tgt.slots : Tgt → List Nat
  | .one i => [i]
  | .tup is => is
theorem wipe_set {i : Nat} {v : Option V} {σ : L2.St} : ∀ {vs : List Nat}, i ∈ vs → wipe (σ.set i v) vs = wipe σ vs
  | [], h => nomatch h
  | w :: vs, h => by
    unfold wipe
    by_cases q : i ∈ vs
    · rw [wipe_set q]
    · have e : i = w := by
        rcases List.mem_cons.mp h with e | e
        · exact e
        · exact absurd e q
      subst e
      have hc : ∀ {us : List Nat}, i ∉ us → wipe (σ.set i v) us = (wipe σ us).set i v := by
        intro us
        induction us with
        | nil => intro _; rfl
        | cons u us ih =>
          intro hu
          unfold wipe
          rw [ih fun z => hu (List.mem_cons_of_mem _ z)]
          rw [List.set_comm]
          exact fun z => hu (by rw [z]; exact List.mem_cons_self)
      rw [hc q, List.set_set]
theorem wipe_none {i : Nat} : ∀ {vs : List Nat} {σ : L2.St}, i ∈ vs → (wipe σ vs).set i none = wipe σ vs
  | [], _, h => nomatch h
  | w :: vs, σ, h => by
    unfold wipe
    by_cases q : i = w
    · subst q; rw [List.set_set]
    · have hm : i ∈ vs := by
        rcases List.mem_cons.mp h with e | e
        · exact absurd e q
        · exact e
      rw [List.set_comm _ _ (Ne.symm q), wipe_none hm]
theorem wipe_wipe {σ : L2.St} : ∀ (us vs : List Nat), (∀ i ∈ us, i ∈ vs) → wipe (wipe σ vs) us = wipe σ vs
  | [], _, _ => rfl
  | u :: us, vs, h => by
    show (wipe (wipe σ vs) us).set u none = wipe σ vs
    rw [wipe_wipe us vs fun i hi => h i (List.mem_cons_of_mem _ hi), wipe_none (h u List.mem_cons_self)]
theorem names_ok {K : PySem.W.Frag} {B : List Addr} {H : Hp} {Q : L2.St → Hp → Prop} : ∀ {is : List Nat} {vs : List V} {xs : List D} {σ : L2.St} {ds : SD}, RepA K B H vs xs → xs.length = is.length → RSl K B H σ ds →
    (∀ σ', RSl K B H σ' (setAll is xs ds) → (∀ ws, (∀ i ∈ is, i ∈ ws) → wipe σ' ws = wipe σ ws) → Q σ' H) → gNames is vs σ H Q
  | [], vs, [], σ, ds, r, _, hs, k => by
    cases r
    exact ⟨rfl, k σ hs fun _ _ => rfl⟩
  | i :: is, _, x :: xs, σ, ds, r, hl, hs, k => by
    cases r with
    | cons h r =>
      refine ⟨_, _, rfl, ?_⟩
      refine names_ok r (Nat.succ.inj hl) (hs.put h) fun σ' h' hw => k σ' h' fun ws hh => ?_
      rw [hw ws fun j hj => hh j (List.mem_cons_of_mem _ hj), wipe_set (hh i List.mem_cons_self)]
theorem tg_ok {K : PySem.W.Frag} {B : List Addr} {H : Hp} {Q : L2.St → Hp → Prop} {g : Tgt} {v : V} {d : D} {σ : L2.St} {ds ds' : SD} (r : Rep K B H v d) (e : setT g d ds = some ds') (hs : RSl K B H σ ds)
    (k : ∀ σ', RSl K B H σ' ds' → (∀ ws, (∀ i ∈ g.slots, i ∈ ws) → wipe σ' ws = wipe σ ws) → Q σ' H) : tgV K g v σ H Q := by
  cases g with
  | one i =>
    cases e
    exact k _ (hs.put r) fun ws h => wipe_set (h i List.mem_cons_self)
  | tup is =>
    cases d with
    | tup xs =>
      simp only [setT] at e
      split at e
      · rename_i hl
        cases e
        cases r with
        | tup hx r => exact ⟨_, _, rfl, hx.sq, by rw [r.len]; exact hl, names_ok r hl hs k⟩
      · cases e
    | _ => cases e
abbrev PGT (X : Cx) (tg : Expr) (g : Tgt) : Prop := PG X tg (tgV X.K g)
theorem g_one {i : Nat} {x : Str} (hN : X.N.Nodup) (hi : X.N[i]? = some x) (hx : Loc X.env.scope x) (hf : X.fn x = true ∨ X.env.scope.names.lookup x = some .local := by first | exact .inl rfl | exact .inr rfl | assumption) : PGT X (.Name x pos) (.one i) := pg_name hN hi hx hf
theorem g_tup {es : List Expr} {k : Nat} {is : List Nat} (hc : X.calm = true) (h : PGs X es (gNames is)) (hn : es.length = is.length := by rfl) (hst : noStars es = true := by rfl) : PGT X (.Tuple es k pos) (.tup is) := pg_tup hc h (by rw [asg_each hst]; simpa using hn) (by rw [asg_each hst]; exact asg_none)
theorem gs_nil : PGs X [] (gNames []) := pgs_nil
theorem gs_cons {e : Expr} {es : List Expr} {i : Nat} {is : List Nat} (h1 : PGT X e (.one i)) (h2 : PGs X es (gNames is)) (hs : notStar e = true := by rfl) : PGs X (e :: es) (gNames (i :: is)) := pgs_cons h1 h2 (by rw [asg_cons hs]; rfl)
/-- target = value -/
def dAsg (te : TD) (g : Tgt) : TSD := fun E ds M => te ds M (E.xd ds) fun d M1 => optK (setT g d ds) fun ds' => E.nx ds' M1
@[simp ↓] theorem dAsg_eq (te : TD) (g : Tgt) : ∀ E ds M, dAsg te g E ds M = (te ds M (E.xd ds) fun d M1 => optK (setT g d ds) fun ds' => E.nx ds' M1) := fun _ _ _ => rfl
theorem asg_ok {W : WX} {F : List Addr} {σ : L2.St} {H : Hp} {ds : SD} {M : MM} {E : EndsD} {g : Tgt} (hs : Sts X.K F H σ ds M) (kx : KWS X.K F H M E.xc W) (ht : dAsg te g E ds M) : tAsg (teOf X.K W te) (tgV X.K g) (EE X.K F H M E) σ H := by
  refine ⟨F, ds, M, _, _, (hs.ex kx), ht, fun v H1 d M1 st mm rp q => ?_⟩
  unfold optK at q
  split at q
  · rename_i ds' e
    exact tg_ok rp e (hs.to st mm).sl fun σ' h' _ => ⟨ds', M1, st, ⟨mm, h'⟩, q⟩
  · exact q.elim
theorem s_asg {tg e : Expr} {g : Tgt} (he : PD X e te) (hg : PGT X tg g) (hs : swapsWithSole [tg] e pos.line X.env = pure false := by rfl) (hw : swappedStores [tg] e X.env = pure none := by rfl)
    (h1 : notStar tg = true := by rfl) : PSD X (.Assign [tg] e pos) (dAsg te g) := PSD.of (fun W tk => ps_asg (he.pe tk) hg hs hw (by rw [asg_cons h1]; simp [assignEach])) fun W F σ H ds M E hs kx ht => asg_ok hs kx ht
/-- name = value -/
def dSet (te : TD) (i : Nat) : TSD := fun E ds M => te ds M (E.xd ds) fun d M1 => letK (ds.set i (some d)) fun ds' => E.nx ds' M1
@[simp ↓] theorem dSet_eq (te : TD) (i : Nat) : ∀ E ds M, dSet te i E ds M = (te ds M (E.xd ds) fun d M1 => letK (ds.set i (some d)) fun ds' => E.nx ds' M1) := fun _ _ _ => rfl
theorem s_set {i : Nat} {x : Str} {e : Expr} {pos' : Pos} (hN : X.N.Nodup) (hi : X.N[i]? = some x) (hx : Loc X.env.scope x) (he : PD X e te) (hs : swapsWith e (some (.Name x pos')) pos.line X.env = pure false := by rfl) (hf : X.fn x = true ∨ X.env.scope.names.lookup x = some .local := by first | exact .inl rfl | exact .inr rfl | assumption) :
    PSD X (.Assign [.Name x pos'] e pos) (dSet te i) := PSD.of (fun W tk => ps_set hN hi hx (he.pe tk) hs hf) fun W F σ H ds M E hs kx ht => ⟨F, ds, M, _, _, (hs.ex kx), ht, fun v H1 d M1 st mm rp q => ⟨_, M1, st, ⟨mm, (hs.to st mm).sl.put rp⟩, q⟩⟩
/-- a, b = x, y (plain locals) -/
def dPar (i j : Nat) (ta : TAD) : TSD := fun E ds M => ta ds M (E.xd ds) fun xs M1 => match xs with | [x, y] => letK ((ds.set i (some x)).set j (some y)) (fun ds' => E.nx ds' M1) | _ => False
@[simp ↓] theorem dPar_eq (i j : Nat) (ta : TAD) : ∀ E ds M, dPar i j ta E ds M = (ta ds M (E.xd ds) fun xs M1 => match xs with | [x, y] => letK ((ds.set i (some x)).set j (some y)) (fun ds' => E.nx ds' M1) | _ => False) := fun _ _ _ => rfl
theorem s_par {i j : Nat} {x y : Str} {a b : Expr} {ta : TAD} {px py pt : Pos} {kt k2 pt2} (hc : X.calm = true) (hN : X.N.Nodup) (hi : X.N[i]? = some x) (hj : X.N[j]? = some y) (hij : i ≠ j)
    (hx : X.env.scope.names.lookup x = some .local) (hy : X.env.scope.names.lookup y = some .local) (ha : PAD X [a, b] ta)
    (hw : swappedStores [.Tuple [.Name x px, .Name y py] kt pt] (.Tuple [a, b] k2 pt2) X.env = pure (some [x, y]))
    (hs : swapsWithSole [.Tuple [.Name x px, .Name y py] kt pt] (.Tuple [a, b] k2 pt2) pos.line X.env = pure false := by rfl) :
    PSD X (.Assign [.Tuple [.Name x px, .Name y py] kt pt] (.Tuple [a, b] k2 pt2) pos) (dPar i j ta) := by
  refine PSD.of (fun W tk => ps_par hc hN hi hj hij hx hy (ha.pa tk) hw hs) fun W F σ H ds M E hst kx ht => ?_
  refine ⟨F, ds, M, _, _, (hst.ex kx), ht, fun vs H1 xs M1 st mm rp q => ?_⟩
  match xs, q with
  | [x, y], q =>
    obtain ⟨v, w, rfl, r1, r2⟩ := repA2 rp
    exact ⟨v, w, rfl, _, M1, st, ⟨mm, ((hst.to st mm).sl.put r1).put r2⟩, q⟩
/-- xs[i] = e, xs a list that may change -/
def dSetIx (to ti te : TD) : TSD := fun E ds M => te ds M (E.xd ds) fun d M1 => to ds M1 (E.xd ds) fun o M2 => ti ds M2 (E.xd ds) fun i M3 => match o, i with
  | .ref a, .int i => lstK (M3.lookup a) fun xs => optK (ixN xs.length i) fun j => letK (put M3 a (.lst (xs.set j d))) fun M' => E.nx ds M'
  | _, _ => False
@[simp ↓] theorem dSetIx_eq (to ti te : TD) : ∀ E ds M, dSetIx to ti te E ds M = (te ds M (E.xd ds) fun d M1 => to ds M1 (E.xd ds) fun o M2 => ti ds M2 (E.xd ds) fun i M3 => match o, i with
  | .ref a, .int i => lstK (M3.lookup a) fun xs => optK (ixN xs.length i) fun j => letK (put M3 a (.lst (xs.set j d))) fun M' => E.nx ds M'
  | _, _ => False) := fun _ _ _ => rfl
theorem s_setIx {o i e : Expr} {to ti : TD} {pos' : Pos} (he : PD X e te) (ho : PD X o to) (hi : PD X i ti)
    (ha : ∀ v, assign (.Subscript o i pos') X.env v = (do
      let ov ← holding [v] (eval o X.env)
      let iv ← holding [v, ov] (eval i X.env)
      standAt pos'
      holding [v, ov, iv] (setItem ov iv v)
      release [v, ov, iv] []) := by intro _; rfl)
    (hs : swapsWithSole [.Subscript o i pos'] e pos.line X.env = pure false := by rfl) (hw : swappedStores [.Subscript o i pos'] e X.env = pure none := by rfl) : PSD X (.Assign [.Subscript o i pos'] e pos) (dSetIx to ti te) := by
  have h1 : (assignEach [.Subscript o i pos'] X.env).map (·.2) = [assign (.Subscript o i pos') X.env] := by simp [assignEach]
  refine PSD.of (fun W tk => ps_asg (he.pe tk) (pg_sub (ho.pe tk) (hi.pe tk) set_list ha) hs hw h1) fun W F σ H ds M E hst kx ht => ?_
  refine ⟨F, ds, M, _, _, (hst.ex kx), ht, fun v H1 d M1 st mm rp q => ?_⟩
  refine ⟨F, ds, M1, _, _, ((hst.ex kx).to st mm), q, fun ov H2 od M2 st2 mm2 rp2 q2 => ?_⟩
  refine ⟨F, ds, M2, _, _, ((hst.ex kx).to (st.trans st2) mm2), q2, fun iv H3 id M3 st3 mm3 rp3 q3 => ?_⟩
  have s123 := (st.trans st2).trans st3
  have rd := (rp.step st2.fix).step st3.fix
  match od, id, q3 with
  | .ref a, .int i, q3 =>
    cases rp2
    cases rp3
    have q3 : lstK (M3.lookup a) (fun xs => optK (ixN xs.length i) fun j => E.nx ds (put M3 a (.lst (xs.set j d)))) := q3
    unfold lstK optK at q3
    split at q3
    · rename_i xs e1
      obtain ⟨vs, h1, h2⟩ := mm3.get e1
      split at q3
      · rename_i j e2
        have hk := lookup_key e1
        have hr : RepO X.K (ak F M3) (upd H3 a (.lst (vs.set j v))) a (.lst (xs.set j d)) := RMM.putL hk (h2.set rd j)
        refine ⟨a, vs, i, j, rfl, rfl, h1, by rw [h2.len]; exact e2, ds, put M3 a (.lst (xs.set j d)), ?_, ⟨mm3.put hk hr, ?_⟩, q3⟩
        · rw [keys_put]; exact s123.trans (stp_put hk)
        · unfold ak; rw [keys_put]; exact (hst.to s123 mm3).sl.step (stp_put hk).fix
      · exact q3.elim
    · exact q3.elim
end
end L2.Dl

namespace L2.Dl
open PySem PySem.Spec PyProof.Rows RZ

/-! ### what is walked -/
/-- from H1, M1 on it gives the items, as long as nothing that stands still is changed -/
structure WalkD (K : PySem.W.Frag) (F : List Addr) (J : It) (H1 : Hp) (M1 : MM) (items : List D) : Prop where
  go : ∀ F' i H B, i < items.length → Fix H1 (ak F M1) H (B ++ F') → J.go i H
  stop : ∀ F' H B, Fix H1 (ak F M1) H (B ++ F') → J.stop items.length H
  yld : ∀ F' i H M x H', i < items.length → Fix H1 (ak F M1) H (ak F' M) → RMM K F' H M → J.yld i H x H' → Stp H (keys M) H' (keys M) ∧ RMM K F' H' M ∧ ∃ d, items[i]? = some d ∧ Rep K (ak F' M) H' x d
abbrev TID := SD → MM → XD → (List D → MM → Prop) → Prop
structure PID (X : Cx) (tg iter : Expr) (ti : TID) : Prop where
  run : ∀ W, Takes X W → ∃ wi, PI X tg iter wi ∧ ∀ F σ H ds M Z QI, Stt X.K W F H σ ds M Z → ti ds M Z QI → ∀ RV : It → Hp → Prop, (∀ J H1 items M1, Stp H (keys M) H1 (keys M1) → RMM X.K F H1 M1 → WalkD X.K F J H1 M1 items → QI items M1 → RV J H1) → wi σ H RV
theorem walkd_list {K : PySem.W.Frag} {F : List Addr} {H : Hp} {M : MM} {a : Addr} {vs : List V} {xs : List D} (h : BL (ak F M) H a vs) (r : RepA K (ak F M) H vs xs) : WalkD K F (Itl K a) H M xs := by
  refine ⟨fun F' i H' B hi s => ?_, fun F' H' B s => ?_, fun F' i H' M' x H2 hi s mm y => ?_⟩
  · have h' := s.bl h
    have hv : i < vs.length := by rw [r.len]; exact hi
    exact ⟨vs, vs[i], h'.sq, by simp [hv]⟩
  · exact ⟨vs, (s.bl h).sq, by rw [r.len]; exact Nat.le_refl _⟩
  · obtain ⟨e, y⟩ := y
    subst e
    obtain ⟨d, h1, h2⟩ := r.getV (y vs (s.bl h).sq)
    exact ⟨.refl _ _, mm, d, h1, h2.step s⟩
theorem walkd_tup {K : PySem.W.Frag} {F : List Addr} {H : Hp} {M : MM} {a : Addr} {vs : List V} {xs : List D} (h : BT K (ak F M) H a vs) (r : RepA K (ak F M) H vs xs) : WalkD K F (Itt K a) H M xs := by
  refine ⟨fun F' i H' B hi s => ?_, fun F' H' B s => ?_, fun F' i H' M' x H2 hi s mm y => ?_⟩
  · have h' := s.bt h
    have hv : i < vs.length := by rw [r.len]; exact hi
    exact ⟨vs, vs[i], h'.sq, by simp [hv]⟩
  · exact ⟨vs, (s.bt h).sq, by rw [r.len]; exact Nat.le_refl _⟩
  · obtain ⟨e, y⟩ := y
    subst e
    obtain ⟨d, h1, h2⟩ := r.getV (y vs (s.bt h).sq)
    exact ⟨.refl _ _, mm, d, h1, h2.step s⟩
def signs (z : Str) : List D := z.cps.toList.map fun c => .str ⟨#[c]⟩
theorem walkd_str {K : PySem.W.Frag} {F : List Addr} {H : Hp} {M : MM} (z : Str) (hz : PyData.strOk z = true) : WalkD K F (Its z) H M (signs z) := by
  have hl : (signs z).length = z.cps.size := by unfold signs; simp
  refine ⟨fun F' i H' B hi s => ?_, fun F' H' B s => ?_, fun F' i H' M' x H2 hi s mm y => ?_⟩
  · show i < z.cps.size; omega
  · show z.cps.size ≤ (signs z).length; omega
  · obtain ⟨e, c, h1, h2⟩ := y
    subst e h2
    exact ⟨.refl _ _, mm, .str ⟨#[c]⟩, by unfold signs; simp [h1], .str _ (okS_one hz (List.mem_of_getElem? (by simpa using h1)))⟩
def ranged (lo : Int) (n : Nat) : List D := (List.range n).map fun (i : Nat) => D.int (lo + i)
theorem ranged_len (lo : Int) (n : Nat) : (ranged lo n).length = n := by unfold ranged; simp
theorem ranged_get {lo : Int} {n i : Nat} (h : i < n) : (ranged lo n)[i]? = some (.int (lo + i)) := by unfold ranged; simp [h]
theorem walkd_range {K : PySem.W.Frag} {F : List Addr} {H : Hp} {M : MM} (lo : Int) (n : Nat) : WalkD K F (Itr lo n) H M (ranged lo n) := by
  refine ⟨fun F' i H' B hi s => ?_, fun F' H' B s => ?_, fun F' i H' M' x H2 hi s mm y => ?_⟩
  · rw [ranged_len] at hi; exact hi
  · show n ≤ (ranged lo n).length; rw [ranged_len]; exact Nat.le_refl _
  · rw [ranged_len] at hi
    obtain ⟨e, y⟩ := y
    subst e y
    exact ⟨.refl _ _, mm, _, ranged_get hi, .int _⟩
def enumd : Nat → List D → List D
  | _, [] => []
  | k, x :: xs => .tup [.int k, x] :: enumd (k + 1) xs
theorem enumd_len : ∀ (k : Nat) (xs : List D), (enumd k xs).length = xs.length
  | _, [] => rfl
  | k, x :: xs => by show (enumd (k + 1) xs).length + 1 = xs.length + 1; rw [enumd_len]
theorem enumd_get : ∀ {k i : Nat} {xs : List D} {d : D}, xs[i]? = some d → (enumd k xs)[i]? = some (.tup [.int ((k + i : Nat) : Int), d])
  | _, _, [], _, h => by simp at h
  | k, 0, x :: xs, d, h => by simp at h; subst h; rfl
  | k, i + 1, x :: xs, d, h => by
    show (enumd (k + 1) xs)[i]? = _
    rw [enumd_get (k := k + 1) (i := i) (xs := xs) (d := d) (by simpa using h)]
    rw [show k + 1 + i = k + (i + 1) by omega]
theorem pair_new {K : PySem.W.Frag} {F : List Addr} {H : Hp} {M : MM} {T : Addr} {x y : V} {dx dy : D} (mm : RMM K F H M) (hT : H T = none) (rx : Rep K (ak F M) H x dx) (ry : Rep K (ak F M) H y dy) : Stp H (keys M) (upd H T (.tup [x, y])) (keys M) ∧ RMM K F (upd H T (.tup [x, y])) M ∧ Rep K (ak F M) (upd H T (.tup [x, y])) (.ref T) (.tup [dx, dy]) :=
  ⟨stp_new hT, mm.new hT, mm.newT hT (.cons rx (.cons ry .nil))⟩
theorem walkd_enum {K : PySem.W.Frag} {F : List Addr} {H : Hp} {M : MM} {a : Addr} {vs : List V} {xs : List D} (h : BL (ak F M) H a vs) (r : RepA K (ak F M) H vs xs) : WalkD K F (Ite K a) H M (enumd 0 xs) := by
  refine ⟨fun F' i H' B hi s => ?_, fun F' H' B s => ?_, fun F' i H' M' x H2 hi s mm y => ?_⟩
  · rw [enumd_len] at hi
    have h' := s.bl h
    have hv : i < vs.length := by rw [r.len]; exact hi
    exact ⟨vs, vs[i], h'.sq, by simp [hv]⟩
  · exact ⟨vs, (s.bl h).sq, by rw [r.len, enumd_len]; exact Nat.le_refl _⟩
  · obtain ⟨T, x, rfl, hT, rfl, y⟩ := y
    obtain ⟨d, h1, h2⟩ := r.getV (y vs (s.bl h).sq)
    obtain ⟨s1, s2, s3⟩ := pair_new mm hT (.int (i : Nat)) (h2.step s)
    refine ⟨s1, s2, _, enumd_get (k := 0) h1, ?_⟩
    rw [Nat.zero_add]
    exact s3
def zipd : List D → List D → List D
  | x :: xs, y :: ys => .tup [x, y] :: zipd xs ys
  | _, _ => []
theorem zipd_len : ∀ (xs ys : List D), (zipd xs ys).length = min xs.length ys.length
  | [], ys => by simp [zipd]
  | x :: xs, [] => by simp [zipd]
  | x :: xs, y :: ys => by simp only [zipd, List.length_cons]; rw [zipd_len]; omega
theorem zipd_get : ∀ {i : Nat} {xs ys : List D} {d e : D}, xs[i]? = some d → ys[i]? = some e → (zipd xs ys)[i]? = some (.tup [d, e])
  | _, [], _, _, _, h, _ => by simp at h
  | _, x :: xs, [], _, _, _, h => by simp at h
  | 0, x :: xs, y :: ys, d, e, h, h' => by simp at h h'; subst h h'; rfl
  | i + 1, x :: xs, y :: ys, d, e, h, h' => by
    show (zipd xs ys)[i]? = _
    exact zipd_get (by simpa using h) (by simpa using h')
theorem walkd_zip {K : PySem.W.Frag} {F : List Addr} {H : Hp} {M : MM} {a b : Addr} {vs ws : List V} {xs ys : List D} (h : BL (ak F M) H a vs) (r : RepA K (ak F M) H vs xs) (h2 : BL (ak F M) H b ws) (r2 : RepA K (ak F M) H ws ys) : WalkD K F (Itz K a b) H M (zipd xs ys) := by
  refine ⟨fun F' i H' B hi s => ?_, fun F' H' B s => ?_, fun F' i H' M' x H2 hi s mm y => ?_⟩
  · rw [zipd_len] at hi
    have hv : i < vs.length := by rw [r.len]; omega
    have hw : i < ws.length := by rw [r2.len]; omega
    exact ⟨vs, ws, vs[i], ws[i], (s.bl h).sq, (s.bl h2).sq, by simp [hv], by simp [hw]⟩
  · refine ⟨vs, ws, (s.bl h).sq, (s.bl h2).sq, ?_⟩
    rw [r.len, r2.len, zipd_len]
    omega
  · obtain ⟨T, x, z, rfl, hT, rfl, y1, y2⟩ := y
    obtain ⟨d, h3, h4⟩ := r.getV (y1 vs (s.bl h).sq)
    obtain ⟨e, h5, h6⟩ := r2.getV (y2 ws (s.bl h2).sq)
    obtain ⟨s1, s2, s3⟩ := pair_new mm hT (h4.step s) (h6.step s)
    exact ⟨s1, s2, _, zipd_get h3 h5, s3⟩
theorem walkd_zipT {K : PySem.W.Frag} {F : List Addr} {H : Hp} {M : MM} {a b : Addr} {vs ws : List V} {xs ys : List D} (h : BT K (ak F M) H a vs) (r : RepA K (ak F M) H vs xs) (h2 : BT K (ak F M) H b ws) (r2 : RepA K (ak F M) H ws ys) : WalkD K F (ItzT K a b) H M (zipd xs ys) := by
  refine ⟨fun F' i H' B hi s => ?_, fun F' H' B s => ?_, fun F' i H' M' x H2 hi s mm y => ?_⟩
  · rw [zipd_len] at hi
    have hv : i < vs.length := by rw [r.len]; omega
    have hw : i < ws.length := by rw [r2.len]; omega
    exact ⟨vs, ws, vs[i], ws[i], (s.bt h).sq, (s.bt h2).sq, by simp [hv], by simp [hw]⟩
  · refine ⟨vs, ws, (s.bt h).sq, (s.bt h2).sq, ?_⟩
    rw [r.len, r2.len, zipd_len]
    omega
  · obtain ⟨T, x, z, rfl, hT, rfl, y1, y2⟩ := y
    obtain ⟨d, h3, h4⟩ := r.getV (y1 vs (s.bt h).sq)
    obtain ⟨e, h5, h6⟩ := r2.getV (y2 ws (s.bt h2).sq)
    obtain ⟨s1, s2, s3⟩ := pair_new mm hT (h4.step s) (h6.step s)
    exact ⟨s1, s2, _, zipd_get h3 h5, s3⟩

section
variable {X : Cx} {tg e e2 : Expr} {te : TD} {pos : Pos}
/-- a list, a tuple, a text: which of them is told by the rule -/
def iL (t : TD) : TID := fun ds M Z Q => t ds M Z fun x M1 => match x with | .lst xs => Q xs M1 | _ => False
@[simp ↓] theorem iL_eq (t : TD) : ∀ ds M Z Q, iL t ds M Z Q = (t ds M Z fun x M1 => match x with | .lst xs => Q xs M1 | _ => False) := fun _ _ _ _ => rfl
def iT (t : TD) : TID := fun ds M Z Q => t ds M Z fun x M1 => match x with | .tup xs => Q xs M1 | _ => False
@[simp ↓] theorem iT_eq (t : TD) : ∀ ds M Z Q, iT t ds M Z Q = (t ds M Z fun x M1 => match x with | .tup xs => Q xs M1 | _ => False) := fun _ _ _ _ => rfl
def iS (t : TD) : TID := fun ds M Z Q => t ds M Z fun x M1 => match x with | .str z => Q (signs z) M1 | _ => False
@[simp ↓] theorem iS_eq (t : TD) : ∀ ds M Z Q, iS t ds M Z Q = (t ds M Z fun x M1 => match x with | .str z => Q (signs z) M1 | _ => False) := fun _ _ _ _ => rfl
theorem i_list (h : PD X e te) : PID X tg e (iL te) := by
  refine ⟨fun W tk => ?_⟩
  refine ⟨_, pi_list (h.pe tk), fun F σ H ds M Z QI hs ht RV k => ?_⟩
  refine ⟨F, ds, M, _, _, hs, ht, fun v H1 d M1 st mm rp q => ?_⟩
  cases d with
  | lst xs =>
    cases rp with
    | lst hx r => exact ⟨_, rfl, ⟨_, hx.sq⟩, k _ H1 xs M1 st mm (walkd_list hx r) q⟩
  | _ => exact (show False from q).elim
theorem i_tup (h : PD X e te) : PID X tg e (iT te) := by
  refine ⟨fun W tk => ?_⟩
  refine ⟨_, pi_tup (h.pe tk), fun F σ H ds M Z QI hs ht RV k => ?_⟩
  refine ⟨F, ds, M, _, _, hs, ht, fun v H1 d M1 st mm rp q => ?_⟩
  cases d with
  | tup xs =>
    cases rp with
    | tup hx r => exact ⟨_, rfl, ⟨_, hx.sq⟩, k _ H1 xs M1 st mm (walkd_tup hx r) q⟩
  | _ => exact (show False from q).elim
theorem i_str (h : PD X e te) : PID X tg e (iS te) := by
  refine ⟨fun W tk => ?_⟩
  refine ⟨_, pi_str (h.pe tk), fun F σ H ds M Z QI hs ht RV k => ?_⟩
  refine ⟨F, ds, M, _, _, hs, ht, fun v H1 d M1 st mm rp q => ?_⟩
  cases d with
  | str z => cases rp with | str _ hz => exact ⟨z, rfl, k _ H1 _ M1 st mm (walkd_str z hz) q⟩
  | _ => exact (show False from q).elim
def iR1 (t : TD) : TID := fun ds M Z Q => dCons t dNil ds M Z fun xs M1 => match xs with | [.int j] => -(2 ^ 62) ≤ j ∧ j < 2 ^ 62 ∧ Q (ranged 0 j.toNat) M1 | _ => False
@[simp ↓] theorem iR1_eq (t : TD) : ∀ ds M Z Q, iR1 t ds M Z Q = (dCons t dNil ds M Z fun xs M1 => match xs with | [.int j] => -(2 ^ 62) ≤ j ∧ j < 2 ^ 62 ∧ Q (ranged 0 j.toNat) M1 | _ => False) := fun _ _ _ _ => rfl
theorem i_range1 {p : Pos} (hm : X.mg "range" = none) (h : PD X e te) (hg : Gl X "range" := by rfl) (hs : notStar e = true := by rfl) : PID X tg (.Call (.Name "range" p) [e] [] pos) (iR1 te) := by
  refine ⟨fun W tk => ?_⟩
  refine ⟨_, pi_range1 hg hm ((ad_cons h ad_nil hs).pa tk) (star_one hs), fun F σ H ds M Z QI hst ht RV k => ?_⟩
  refine ⟨F, ds, M, _, _, hst, ht, fun vs H1 xs M1 st mm rp q => ?_⟩
  match xs, rp, q with
  | [.int j], rp, q =>
    obtain ⟨v, rfl, r⟩ := repA1 rp
    cases r
    exact ⟨j, rfl, q.1, q.2.1, k _ H1 _ M1 st mm (walkd_range 0 j.toNat) q.2.2⟩
def iR2 (t u : TD) : TID := fun ds M Z Q => dCons t (dCons u dNil) ds M Z fun xs M2 => match xs with | [.int i, .int j] => (-(2 ^ 62) ≤ i ∧ i < 2 ^ 62 ∧ -(2 ^ 62) ≤ j ∧ j < 2 ^ 62) ∧ Q (ranged i (j - i).toNat) M2 | _ => False
@[simp ↓] theorem iR2_eq (t u : TD) : ∀ ds M Z Q, iR2 t u ds M Z Q = (dCons t (dCons u dNil) ds M Z fun xs M2 => match xs with | [.int i, .int j] => (-(2 ^ 62) ≤ i ∧ i < 2 ^ 62 ∧ -(2 ^ 62) ≤ j ∧ j < 2 ^ 62) ∧ Q (ranged i (j - i).toNat) M2 | _ => False) := fun _ _ _ _ => rfl
theorem i_range2 {p : Pos} {te2 : TD} (hm : X.mg "range" = none) (h : PD X e te) (h2 : PD X e2 te2) (hg : Gl X "range" := by rfl) (hs : notStar e = true := by rfl) (hs2 : notStar e2 = true := by rfl) : PID X tg (.Call (.Name "range" p) [e, e2] [] pos) (iR2 te te2) := by
  refine ⟨fun W tk => ?_⟩
  refine ⟨_, pi_range2 hg hm ((ad_cons h (ad_cons h2 ad_nil hs2) hs).pa tk) (by rw [star_cons hs, star_one hs2]) (star_one hs2), fun F σ H ds M Z QI hst ht RV k => ?_⟩
  refine ⟨F, ds, M, _, _, hst, ht, fun vs H1 xs M1 st mm rp q => ?_⟩
  match xs, rp, q with
  | [.int i, .int j], rp, q =>
    obtain ⟨v, w, rfl, r1, r2⟩ := repA2 rp
    cases r1
    cases r2
    exact ⟨i, j, rfl, q.1, k _ H1 _ M1 st mm (walkd_range i (j - i).toNat) q.2⟩
def iEnumD (t : TD) : TID := fun ds M Z Q => dCons t dNil ds M Z fun zs M1 => match zs with | [.lst xs] => Q (enumd 0 xs) M1 | _ => False
@[simp ↓] theorem iEnumD_eq (t : TD) : ∀ ds M Z Q, iEnumD t ds M Z Q = (dCons t dNil ds M Z fun zs M1 => match zs with | [.lst xs] => Q (enumd 0 xs) M1 | _ => False) := fun _ _ _ _ => rfl
theorem i_enum {p tpos : Pos} {elts : List Expr} {kk : Nat} (hm : X.mg "enumerate" = none) (h : PD X e te) (hg : Gl X "enumerate" := by rfl) (hs : notStar e = true := by rfl) : PID X (.Tuple elts kk tpos) (.Call (.Name "enumerate" p) [e] [] pos) (iEnumD te) := by
  refine ⟨fun W tk => ?_⟩
  refine ⟨_, pi_enum hg hm ((ad_cons h ad_nil hs).pa tk) (star_one hs), fun F σ H ds M Z QI hst ht RV k => ?_⟩
  refine ⟨F, ds, M, _, _, hst, ht, fun vs H1 xs M1 st mm rp q => ?_⟩
  match xs, rp, q with
  | [.lst ys], rp, q =>
    obtain ⟨v, rfl, r⟩ := repA1 rp
    cases r with
    | lst hx r => exact ⟨_, _, rfl, hx.sq, k _ H1 _ M1 st mm (walkd_enum hx r) q⟩
def iZipD (t u : TD) : TID := fun ds M Z Q => dCons t (dCons u dNil) ds M Z fun zs M2 => match zs with | [.lst xs, .lst ys] => Q (zipd xs ys) M2 | [.tup xs, .tup ys] => Q (zipd xs ys) M2 | _ => False
@[simp ↓] theorem iZipD_eq (t u : TD) : ∀ ds M Z Q, iZipD t u ds M Z Q = (dCons t (dCons u dNil) ds M Z fun zs M2 => match zs with | [.lst xs, .lst ys] => Q (zipd xs ys) M2 | [.tup xs, .tup ys] => Q (zipd xs ys) M2 | _ => False) := fun _ _ _ _ => rfl
theorem i_zip {p tpos : Pos} {elts : List Expr} {kk : Nat} {te2 : TD} (hm : X.mg "zip" = none) (h : PD X e te) (h2 : PD X e2 te2) (hg : Gl X "zip" := by rfl) (hs : notStar e = true := by rfl) (hs2 : notStar e2 = true := by rfl) : PID X (.Tuple elts kk tpos) (.Call (.Name "zip" p) [e, e2] [] pos) (iZipD te te2) := by
  refine ⟨fun W tk => ?_⟩
  refine ⟨_, pi_zipA hg hm ((ad_cons h (ad_cons h2 ad_nil hs2) hs).pa tk) (star_cons hs) (star_any (by show (notStar e2 && true) = true; rw [hs2]; rfl)), fun F σ H ds M Z QI hst ht RV k => ?_⟩
  refine ⟨F, ds, M, _, _, hst, ht, fun vs H1 xs M1 st mm rp q => ?_⟩
  match xs, rp, q with
  | [.lst ys, .lst zs], rp, q =>
    obtain ⟨v, w, rfl, r1, r2⟩ := repA2 rp
    cases r1 with
    | lst hx r => cases r2 with
      | lst hx2 r2 => exact ⟨_, _, _, _, rfl, .inl ⟨hx.sq, hx2.sq, k _ H1 _ M1 st mm (walkd_zip hx r hx2 r2) q⟩⟩
  | [.tup ys, .tup zs], rp, q =>
    obtain ⟨v, w, rfl, r1, r2⟩ := repA2 rp
    cases r1 with
    | tup hx r => cases r2 with
      | tup hx2 r2 => exact ⟨_, _, _, _, rfl, .inr ⟨hx.sq, hx2.sq, k _ H1 _ M1 st mm (walkd_zipT hx r hx2 r2) q⟩⟩

/-! ### for -/
def forGo (g : Tgt) (tb : TSD) (E : EndsD) : List D → SD → MM → Prop
  | [], ds, M => E.nx ds M
  | x :: xs, ds, M => optK (setT g x ds) fun ds2 => tb { E with nx := forGo g tb E xs, ct := forGo g tb E xs, bk := E.nx } ds2 M
theorem forGo_congr {g : Tgt} {tb : TSD} {E : EndsD} {xs xs' : List D} {ds ds' : SD} {M M' : MM} (h1 : xs = xs') (h2 : ds = ds') (h3 : M = M') : forGo g tb E xs ds M = forGo g tb E xs' ds' M' := by rw [h1, h2, h3]
def dFor (ti : TID) (g : Tgt) (tb : TSD) : TSD := fun E ds M => ti ds M (E.xd ds) fun items M1 => forGo g tb E items ds M1
@[simp ↓] theorem dFor_eq (ti : TID) (g : Tgt) (tb : TSD) : ∀ E ds M, dFor ti g tb E ds M = (ti ds M (E.xd ds) fun items M1 => forGo g tb E items ds M1) := fun _ _ _ => rfl
theorem s_for {iter : Expr} {body : List Stmt} {ti : TID} {g : Tgt} {tb : TSD} (hp : PassesOwn (model X.prog X.w) X.A X.env X.xe) (hc : X.calm = true) (hi : PID X tg iter ti) (hg : PGT X tg g) (hb : PSsD X body tb)
    (hs : ∀ x, foldedSetIterable iter X.env x = pure x := by intro _; rfl) : PSD X (.For tg iter body [] pos) (dFor ti g tb) := by
  refine ⟨fun W tk F pins s σ H ds M E I hst kx ht => ?_⟩
  obtain ⟨wi, pi, hw⟩ := hi.run W tk
  refine (ps_for hp hc pi hg (hb.ps tk) hs).run pins s σ H _ I ?_
  refine hw F σ H ds M _ _ (hst.ex kx) ht _ fun J H1 items M1 st mm wk q => ?_
  refine ⟨fun i m σ' H' => m = items.length - i ∧ i ≤ items.length ∧ ∃ ds' M', Stp H1 (keys M1) H' (keys M') ∧ Sts X.K F H' σ' ds' M' ∧ forGo g tb E (items.drop i) ds' M', ⟨items.length, by simp, Nat.zero_le _, ds, M1, .refl _ _, hst.to st mm, q⟩, ?_⟩
  rintro i m σ' H' ⟨rfl, hle, ds', M', s1, tt, w⟩
  by_cases hlt : i < items.length
  · refine .inr ⟨wk.go F i H' (keys M') hlt s1.fix, fun σ2 H2 => ∃ ds2 M2, Stp H1 (keys M1) H2 (keys M2) ∧ Sts X.K F H2 σ2 ds2 M2 ∧ forGo g tb E (items.drop (i + 1)) ds2 M2, fun σ2 H2 h => ⟨items.length - (i + 1), by omega, rfl, hlt, h⟩, fun x H2 y => ?_⟩
    obtain ⟨s2, mm2, d, hd, rp⟩ := wk.yld F i H' M' x H2 hlt s1.fix tt.mm y
    have e0 : items.drop i = d :: items.drop (i + 1) := by
      rw [List.drop_eq_getElem_cons hlt]
      rw [List.getElem?_eq_getElem hlt] at hd
      cases hd
      rfl
    have tn := w
    rw [e0] at tn
    have tn : optK (setT g d ds') (fun ds2 => tb { E with nx := forGo g tb E (items.drop (i + 1)), ct := forGo g tb E (items.drop (i + 1)), bk := E.nx } ds2 M') := tn
    unfold optK at tn
    split at tn
    · rename_i ds2 e
      refine tg_ok rp e (tt.sl.step s2.fix) fun σ2 h2 _ => ?_
      have sAll := (st.trans s1).trans s2
      refine ⟨F, ds2, M', _, ⟨mm2, h2⟩, tn, ⟨fun σ3 H3 ds3 M3 s3 t3 w3 => ⟨ds3, M3, (s1.trans s2).trans s3, t3, w3⟩, KQ.eq.on sAll, KS.es.on sAll, fun σ3 H3 ds3 M3 s3 t3 w3 => ⟨ds3, M3, (s1.trans s2).trans s3, t3, w3⟩, kx.on sAll⟩⟩
    · exact tn.elim
  · have e : i = items.length := by omega
    subst e
    rw [List.drop_length] at w
    exact .inl ⟨wk.stop F H' (keys M') s1.fix, ds', M', st.trans s1, tt, w⟩
/-! ### while -/
def dWhile (c : TTD) (tb : TSD) : TSD := fun E ds M => ∃ Wh : Nat → SD → MM → Prop, (∃ m, Wh m ds M) ∧ ∀ m ds M, Wh m ds M → c ds M (E.xd ds) fun b M1 => if b = true then tb { E with nx := fun ds' M' => ∃ m', m' < m ∧ Wh m' ds' M', ct := fun ds' M' => ∃ m', m' < m ∧ Wh m' ds' M', bk := E.nx } ds M1 else E.nx ds M1
theorem dWhile_congr {c : TTD} {tb : TSD} {E : EndsD} {ds ds' : SD} {M M' : MM} (h2 : ds = ds') (h3 : M = M') : dWhile c tb E ds M = dWhile c tb E ds' M' := by rw [h2, h3]
theorem s_while {c : Expr} {body : List Stmt} {tc : TTD} {tb : TSD} (hp : PassesOwn (model X.prog X.w) X.A X.env X.xe) (hc : PTD X c tc) (hb : PSsD X body tb) : PSD X (.While c body [] pos) (dWhile tc tb) := by
  refine PSD.of (fun W tk => ps_while hp (hc.pt tk) (hb.ps tk)) fun W F σ H ds M E hst kx ht => ?_
  obtain ⟨Wh, ⟨m0, w0⟩, turn⟩ := ht
  refine ⟨fun m σ' H' => ∃ ds' M', Stp H (keys M) H' (keys M') ∧ Sts X.K F H' σ' ds' M' ∧ Wh m ds' M', ⟨m0, ds, M, .refl _ _, hst, w0⟩, ?_⟩
  rintro m σ' H' ⟨ds', M', s1, tt, w⟩
  refine ⟨F, ds', M', _, _, tt.ex (kx.on s1), turn m ds' M' w, fun b H2 M2 s2 mm2 q => ?_⟩
  cases b with
  | true =>
    refine iteT ⟨fun σ3 H3 => ∃ m', m' < m ∧ ∃ ds3 M3, Stp H (keys M) H3 (keys M3) ∧ Sts X.K F H3 σ3 ds3 M3 ∧ Wh m' ds3 M3, fun σ3 H3 h => h, ?_⟩
    refine ⟨F, ds', M2, _, tt.to s2 mm2, q, ⟨fun σ3 H3 ds3 M3 s3 t3 w3 => ?_, KQ.eq.on (s1.trans s2), KS.es.on (s1.trans s2), fun σ3 H3 ds3 M3 s3 t3 w3 => ?_, kx.on (s1.trans s2)⟩⟩
    · obtain ⟨m', hm, w3⟩ := w3
      exact ⟨m', hm, ds3, M3, (s1.trans s2).trans s3, t3, w3⟩
    · obtain ⟨m', hm, w3⟩ := w3
      exact ⟨m', hm, ds3, M3, (s1.trans s2).trans s3, t3, w3⟩
  | false => exact iteF ⟨ds', M2, s1.trans s2, tt.to s2 mm2, q⟩

/-! ### list comprehensions -/
@[simp] def wipeD (ds : SD) : List Nat → SD
  | [] => ds
  | v :: vs => (wipeD ds vs).set v none
theorem RSl.forget {K : PySem.W.Frag} {B : List Addr} {H : Hp} {σ : L2.St} {ds : SD} (h : RSl K B H σ ds) (i : Nat) : RSl K B H (σ.set i none) (ds.set i none) := by
  refine ⟨by simp [h.len], fun j d hj => ?_⟩
  by_cases q : i = j
  · subst q
    by_cases hl : i < ds.length
    · rw [List.getElem?_set_self hl] at hj; cases hj
    · rw [List.getElem?_eq_none (by simpa using hl)] at hj; cases hj
  · rw [List.getElem?_set_ne q] at hj
    obtain ⟨w, h1, h2⟩ := h.at_ j d hj
    exact ⟨w, by rw [List.getElem?_set_ne q]; exact h1, h2⟩
theorem RSl.wipe {K : PySem.W.Frag} {B : List Addr} {H : Hp} {σ : L2.St} {ds : SD} (h : RSl K B H σ ds) : ∀ vs : List Nat, RSl K B H (L2.wipe σ vs) (wipeD ds vs)
  | [] => h
  | v :: vs => (RSl.wipe h vs).forget v
def lcGo (g : Tgt) (tt : TTD) (te : TD) (ds : SD) (Q : QD) : List D → List D → MM → Prop
  | [], acc, M => Q (.lst acc) M
  | x :: xs, acc, M => optK (setT g x ds) fun ds2 => tt ds2 M X0 fun b M3 => if b = true then te ds2 M3 X0 fun y M4 => acc.length < sizeLine ∧ lcGo g tt te ds Q xs (acc ++ [y]) M4 else lcGo g tt te ds Q xs acc M3
theorem lcGo_congr {g : Tgt} {tt : TTD} {te : TD} {ds ds' : SD} {Q : QD} {xs xs' acc acc' : List D} {M M' : MM} (h1 : xs = xs') (h2 : ds = ds') (h3 : M = M') (h4 : acc = acc') : lcGo g tt te ds Q xs acc M = lcGo g tt te ds' Q xs' acc' M' := by rw [h1, h2, h3, h4]
def dLc (ti : TID) (g : Tgt) (tt : TTD) (te : TD) (vs : List Nat) : TD := fun ds M Z Q => ti ds M Z fun items M1 => lcGo g tt te (wipeD ds vs) Q items [] M1
@[simp ↓] theorem dLc_eq (ti : TID) (g : Tgt) (tt : TTD) (te : TD) (vs : List Nat) : ∀ ds M Z Q, dLc ti g tt te vs ds M Z Q = (ti ds M Z fun items M1 => lcGo g tt te (wipeD ds vs) Q items [] M1) := fun _ _ _ _ => rfl
abbrev dYes : TTD := fun _ M _ Q => Q true M
abbrev W0 : WX := fun _ _ _ _ => False
def PTsD (X : Cx) (ifs : List Expr) (t : TTD) : Prop := PTs X ifs (ttOf X.K W0 t)
theorem ts_nil : PTsD X [] dYes := ⟨fun pins s σ H Q I h => by
  obtain ⟨F, ds, M, Z, QD, hs, ht, k⟩ := h
  exact pts_nil.run pins s σ H Q I (k true H M (.refl _ _) hs.mm ht)⟩
theorem ts_one {c : Expr} {t : TTD} (h : PTD X c t) : PTsD X [c] t := pts_one (h.pt takes0)
theorem fix_hide {H : Hp} {F : List Addr} {M : MM} {L : Addr} {o : HO} (h : H L = none) : Fix H (ak F M) (upd H L o) (ak (L :: F) M) := fun a u ha e => by
  have hne : a ≠ L := ne_of_none e h
  rw [List.mem_append, not_or] at ha
  refine ⟨fun z => ?_, by rw [upd_ne hne]; exact e⟩
  rcases List.mem_append.mp z with z | z
  · exact ha.1 z
  · rcases List.mem_cons.mp z with z | z
    · exact hne z
    · exact ha.2 z
theorem RMM.hide {K : PySem.W.Frag} {F : List Addr} {H : Hp} {M : MM} {L : Addr} {o : HO} (m : RMM K F H M) (h : H L = none) : RMM K (L :: F) (upd H L o) M := by
  have hL := m.notin h
  rw [List.mem_append, not_or] at hL
  refine ⟨m.nd, fun a mo ha => (m.at_ a mo ha).step (fix_hide h) ?_, fun f hf => ?_⟩
  · obtain ⟨u, e⟩ := (m.at_ a mo ha).some
    rw [upd_ne (ne_of_none e h)]
  · rcases List.mem_cons.mp hf with e | hf
    · subst e; exact ⟨hL.1, _, upd_same⟩
    · obtain ⟨h1, u, e⟩ := m.fd f hf
      exact ⟨h1, u, by rw [upd_ne (ne_of_none e h)]; exact e⟩
theorem fix_hid {H : Hp} {F : List Addr} {M : MM} {L : Addr} {o : HO} (h : L ∈ F) : Fix H (ak F M) (upd H L o) (ak F M) := fun a u ha e => by
  refine ⟨ha, ?_⟩
  rw [upd_ne (fun z => ha (by rw [z]; exact List.mem_append_right _ h))]
  exact e
theorem RMM.hid {K : PySem.W.Frag} {F : List Addr} {H : Hp} {M : MM} {L : Addr} {o : HO} (m : RMM K F H M) (h : L ∈ F) : RMM K F (upd H L o) M := by
  refine ⟨m.nd, fun a mo ha => (m.at_ a mo ha).step (fix_hid h) (upd_ne fun z => (m.fd L h).1 (by rw [← z]; exact List.mem_map.mpr ⟨_, ha, rfl⟩)), fun f hf => ?_⟩
  obtain ⟨h1, u, e⟩ := m.fd f hf
  by_cases q : f = L
  · subst q; exact ⟨h1, _, upd_same⟩
  · exact ⟨h1, u, by rw [upd_ne q]; exact e⟩
theorem fix_show {H : Hp} {F : List Addr} {M : MM} {L : Addr} : Fix H (ak (L :: F) M) H (ak F M) := fun a u ha e => by
  refine ⟨fun z => ha ?_, e⟩
  rcases List.mem_append.mp z with z | z
  · exact List.mem_append_left _ z
  · exact List.mem_append_right _ (List.mem_cons_of_mem _ z)
theorem RMM.show {K : PySem.W.Frag} {F : List Addr} {H : Hp} {M : MM} {L : Addr} (m : RMM K (L :: F) H M) : RMM K F H M :=
  ⟨m.nd, fun a mo ha => (m.at_ a mo ha).step fix_show rfl, fun f hf => m.fd f (List.mem_cons_of_mem _ hf)⟩
theorem Fix.trans {H H1 H2 : Hp} {A A1 A2 : List Addr} (a : Fix H A H1 A1) (b : Fix H1 A1 H2 A2) : Fix H A H2 A2 := fun c o hc e => by
  obtain ⟨h1, h2⟩ := a c o hc e
  exact b c o h1 h2
theorem lc_ok {W : WX} {Z : XD} {F : List Addr} {σ : L2.St} {H : Hp} {ds : SD} {M : MM} {Q : QD} {QV : VK} {K : PySem.W.Frag} {wi : TI} {ti : TID} {g : Tgt} {tt : TTD} {te : TD} {vs : List Nat} (hv : ∀ i ∈ g.slots, i ∈ vs)
    (hw : ∀ F σ H ds M Z QI, Stt K W F H σ ds M Z → ti ds M Z QI → ∀ RV : It → Hp → Prop, (∀ J H1 items M1, Stp H (keys M) H1 (keys M1) → RMM K F H1 M1 → WalkD K F J H1 M1 items → QI items M1 → RV J H1) → wi σ H RV)
    (hst : Stt K W F H σ ds M Z) (ht : dLc ti g tt te vs ds M Z Q) (k : KQ K F H M Q QV) : tLc wi (tgV K g) (ttOf K W0 tt) (teOf K W0 te) vs σ H QV := by
  refine hw F σ H ds M _ _ hst ht _ fun J H1 items M1 st mm wk q => ?_
  intro L hL
  have hLF : L ∉ F := fun z => by
    obtain ⟨_, o, e⟩ := mm.fd L z
    rw [hL] at e; cases e
  refine ⟨fun i m H' => m = items.length - i ∧ i ≤ items.length ∧ ∃ acc vacc M', Stp H1 (keys M1) H' (keys M') ∧ Fix H1 (ak F M1) H' (ak (L :: F) M') ∧ RMM K (L :: F) H' M' ∧ H' L = some (.lst vacc) ∧ RepA K (ak (L :: F) M') H' vacc acc ∧ RSl K (ak (L :: F) M') H' σ ds ∧ lcGo g tt te (wipeD ds vs) Q (items.drop i) acc M',
    ⟨items.length, by simp, Nat.zero_le _, [], [], M1, stp_new hL, fix_hide hL, mm.hide hL, upd_same, .nil, ((hst.to st mm).sl.step (fix_hide hL)), q⟩, ?_⟩
  rintro i m H' ⟨rfl, hle, acc, vacc, M', s1, f1, mm', hLa, ra, sl, w⟩
  by_cases hlt : i < items.length
  · refine .inr ⟨wk.go (L :: F) i H' (keys M') hlt f1, fun H2 => ∃ acc vacc M2, Stp H1 (keys M1) H2 (keys M2) ∧ Fix H1 (ak F M1) H2 (ak (L :: F) M2) ∧ RMM K (L :: F) H2 M2 ∧ H2 L = some (.lst vacc) ∧ RepA K (ak (L :: F) M2) H2 vacc acc ∧ RSl K (ak (L :: F) M2) H2 σ ds ∧ lcGo g tt te (wipeD ds vs) Q (items.drop (i + 1)) acc M2, fun H2 h => ⟨items.length - (i + 1), by omega, rfl, hlt, h⟩, fun x H2 y => ?_⟩
    obtain ⟨s2, mm2, d, hd, rp⟩ := wk.yld (L :: F) i H' M' x H2 hlt f1 mm' y
    have hLk : L ∉ keys M' := (mm'.fd L List.mem_cons_self).1
    have e0 : items.drop i = d :: items.drop (i + 1) := by
      rw [List.drop_eq_getElem_cons hlt]
      rw [List.getElem?_eq_getElem hlt] at hd
      cases hd
      rfl
    have tn := w
    rw [e0] at tn
    have tn : optK (setT g d (wipeD ds vs)) (fun ds2 => tt ds2 M' X0 fun b M3 => if b = true then te ds2 M3 X0 fun y M4 => acc.length < sizeLine ∧ lcGo g tt te (wipeD ds vs) Q (items.drop (i + 1)) (acc ++ [y]) M4 else lcGo g tt te (wipeD ds vs) Q (items.drop (i + 1)) acc M3) := tn
    unfold optK at tn
    split at tn
    · rename_i ds2 e
      refine tg_ok rp e ((sl.step s2.fix).wipe vs) fun σ2 h2 hwp => ⟨?_, ?_⟩
      · rw [hwp vs hv, wipe_wipe vs vs fun _ h => h]
      · refine ⟨L :: F, ds2, M', _, _, ⟨mm2, h2, kw0⟩, tn, fun b H3 M3 s3 mm3 q3 => ?_⟩
        cases b with
        | true =>
          refine iteT ⟨L :: F, ds2, M3, _, _, ⟨mm3, h2.step s3.fix, kw0⟩, q3, fun yv H4 yd M4 s4 mm4 rp4 q4 => ?_⟩
          have s24 := (s2.trans s3).trans s4
          have o2 := s24.keep L _ hLk hLa
          have hm : L ∈ L :: F := List.mem_cons_self
          have fx : Fix H4 (ak (L :: F) M4) (upd H4 L (.lst (vacc ++ [yv]))) (ak (L :: F) M4) := fix_hid hm
          refine ⟨vacc, o2, by rw [ra.len]; exact q4.1, acc ++ [yd], vacc ++ [yv], M4, ?_, ?_, mm4.hid hm, upd_same, ?_, ?_, q4.2⟩
          · have sA := (s1.trans s24)
            exact ⟨fun b o hb e => by rw [upd_ne (ne_of_none e hL)]; exact sA.keep b o hb e, sA.new⟩
          · exact (f1.trans s24.fix).trans fx
          · exact ((ra.step s24.fix).append (.cons rp4 .nil)).step fx
          · exact (sl.step s24.fix).step fx
        | false =>
          have s23 := s2.trans s3
          exact iteF ⟨acc, vacc, M3, s1.trans s23, f1.trans s23.fix, mm3, s23.keep L _ hLk hLa, ra.step s23.fix, sl.step s23.fix, q3⟩
    · exact tn.elim
  · have e : i = items.length := by omega
    subst e
    rw [List.drop_length] at w
    have hLk : L ∉ keys M' := (mm'.fd L List.mem_cons_self).1
    refine .inl ⟨wk.stop (L :: F) H' (keys M') f1, k _ H' _ M' (st.trans s1) mm'.show (.lst ⟨?_, hLa⟩ (ra.step fix_show)) w⟩
    rw [List.mem_append, not_or]
    exact ⟨hLk, hLF⟩
theorem d_lc {elt iter : Expr} {ifs : List Expr} {scope : Scope} {own : List (Str × Nat)} {ti : TID} {g : Tgt} {tt : TTD} {te : TD} (hc : X.calm = true) (hN : X.N.Nodup) (hi : PID X tg iter ti) (ok : BlkOk X.N X.env.scope scope own)
    (hg : ∀ (s : Shared) (H : Hp) (C : Addr) (cl : List (Str × Addr)) (fp : List Addr), PG (X.blk s H scope (compEnvC scope cl C X.env) fp) tg (tgV X.K g)) (ht : ∀ (s : Shared) (H : Hp) (C : Addr) (cl : List (Str × Addr)) (fp : List Addr), PTsD (X.blk s H scope (compEnvC scope cl C X.env) fp) ifs tt)
    (he : ∀ (s : Shared) (H : Hp) (C : Addr) (cl : List (Str × Addr)) (fp : List Addr), PD (X.blk s H scope (compEnvC scope cl C X.env) fp) elt te) (hv : ∀ i ∈ g.slots, i ∈ own.map (·.2) := by decide) (hs : ∀ x, foldedSetIterable iter X.env x = pure x := by intro _; rfl) :
    PD X (.ListComp elt [⟨tg, iter, ifs, 0⟩] scope pos) (dLc ti g tt te (own.map (·.2))) := by
  refine ⟨fun W tk F pins s σ H ds M Z Q I hst hq => ?_⟩
  obtain ⟨wi, pi, hw⟩ := hi.run W tk
  refine thn ((pe_lc (tt := ttOf X.K W0 tt) (te := teOf X.K W0 te) hc hN pi ok hg ht (fun s H C cl fp => (he s H C cl fp).pe takes0) hs).run pins s σ H _ I (lc_ok hv hw hst hq KQ.eq)) fun u s' hh => ?_
  obtain ⟨v, H', I', r, d, M', st, mm, rp, q⟩ := hh
  exact ⟨v, H', d, M', I', r, st, mm, rp, q⟩
theorem s_setLc {i : Nat} {y : Str} {py : Pos} {elt iter : Expr} {ifs : List Expr} {scope : Scope} {own : List (Str × Nat)} {spos : Pos} {ti : TID} {g : Tgt} {tt : TTD} {te : TD} (hc : X.calm = true) (hN : X.N.Nodup) (hy : X.N[i]? = some y) (hyl : X.env.scope.names.lookup y = some .local)
    (hsw : swapsWith (.ListComp elt [⟨tg, iter, ifs, 0⟩] scope pos) (some (.Name y py)) spos.line X.env = pure true) (hi : PID X tg iter ti) (ok : BlkOk X.N X.env.scope scope own)
    (hg : ∀ (s : Shared) (H : Hp) (C : Addr) (cl : List (Str × Addr)) (fp : List Addr), PG (X.blk s H scope (compEnvC scope cl C X.env) fp) tg (tgV X.K g)) (ht : ∀ (s : Shared) (H : Hp) (C : Addr) (cl : List (Str × Addr)) (fp : List Addr), PTsD (X.blk s H scope (compEnvC scope cl C X.env) fp) ifs tt)
    (he : ∀ (s : Shared) (H : Hp) (C : Addr) (cl : List (Str × Addr)) (fp : List Addr), PD (X.blk s H scope (compEnvC scope cl C X.env) fp) elt te) (hv : ∀ i ∈ g.slots, i ∈ own.map (·.2) := by decide) (hs : ∀ x, foldedSetIterable iter X.env x = pure x := by intro _; rfl) :
    PSD X (.Assign [.Name y py] (.ListComp elt [⟨tg, iter, ifs, 0⟩] scope pos) spos) (dSet (dLc ti g tt te (own.map (·.2))) i) := by
  refine ⟨fun W tk F pins s σ H ds M E I hst kx hq => ?_⟩
  obtain ⟨wi, pi, hw⟩ := hi.run W tk
  refine (ps_setLc (tt := ttOf X.K W0 tt) (te := teOf X.K W0 te) hc hN hy hyl hsw pi ok hg ht (fun s H C cl fp => (he s H C cl fp).pe takes0) hs).run pins s σ H _ I ?_
  exact lc_ok hv hw (hst.ex kx) hq fun v H1 d M1 st mm rp q => ⟨_, M1, st, ⟨mm, (hst.to st mm).sl.put rp⟩, q⟩
end
end L2.Dl

namespace L2.Dl
open PySem PySem.Spec PyProof.Rows

/-! ### things that come and go -/
theorem stp_cons {H : Hp} {B : List Addr} {p : Addr} {o : HO} (h : H p = none) : Stp H B (upd H p o) (p :: B) :=
  ⟨fun b u _ e => by rw [upd_ne (ne_of_none e h)]; exact e, fun b hb => by
    rcases List.mem_cons.mp hb with e | hb
    · subst e; exact .inr h
    · exact .inl hb⟩
theorem RMM.cons {K : PySem.W.Frag} {F : List Addr} {H : Hp} {M : MM} {p : Addr} {o : HO} {mo : MO} (m : RMM K F H M) (h : H p = none) (r : RepO K (ak F ((p, mo) :: M)) (upd H p o) p mo) : RMM K F (upd H p o) ((p, mo) :: M) := by
  have hp := m.notin h
  rw [List.mem_append, not_or] at hp
  refine ⟨List.nodup_cons.mpr ⟨hp.1, m.nd⟩, fun a mo' ha => ?_, fun f hf => ?_⟩
  · rcases List.mem_cons.mp ha with e | ha
    · cases e; exact r
    · obtain ⟨u, e⟩ := (m.at_ a mo' ha).some
      refine (m.at_ a mo' ha).step (H' := upd H p o) (stp_cons h).fix ?_
      rw [upd_ne (ne_of_none e h)]
  · obtain ⟨h1, u, e⟩ := m.fd f hf
    refine ⟨fun z => ?_, u, by rw [upd_ne (ne_of_none e h)]; exact e⟩
    rcases List.mem_cons.mp z with z | z
    · exact absurd z (ne_of_none e h)
    · exact h1 z
theorem RMM.consL {K : PySem.W.Frag} {F : List Addr} {H : Hp} {M : MM} {p : Addr} {vs : List V} {xs : List D} (m : RMM K F H M) (h : H p = none) (r : RepA K (ak F M) H vs xs) : RMM K F (upd H p (.lst vs)) ((p, .lst xs) :: M) :=
  m.cons h ⟨vs, upd_same, r.step (stp_cons h).fix⟩
def drop (M : MM) (p : Addr) : MM := M.filter fun q => !decide (q.1 = p)
theorem drop_sub {M : MM} {p b : Addr} (h : b ∈ keys (drop M p)) : b ∈ keys M ∧ b ≠ p := by
  obtain ⟨q, hq, e⟩ := List.mem_map.mp h
  obtain ⟨h1, h2⟩ := List.mem_filter.mp hq
  subst e
  refine ⟨List.mem_map.mpr ⟨q, h1, rfl⟩, fun z => ?_⟩
  rw [decide_eq_true z] at h2
  cases h2
theorem stp_drop {H : Hp} {M : MM} {p : Addr} : Stp H (keys M) H (keys (drop M p)) := ⟨fun _ _ _ e => e, fun b hb => .inl (drop_sub hb).1⟩
theorem RMM.drop {K : PySem.W.Frag} {F : List Addr} {H : Hp} {M : MM} (m : RMM K F H M) (p : Addr) : RMM K F H (drop M p) := by
  refine ⟨m.nd.sublist (List.Sublist.map _ List.filter_sublist), fun a mo ha => ?_, fun f hf => ?_⟩
  · exact (m.at_ a mo (List.mem_filter.mp ha).1).step stp_drop.fix rfl
  · obtain ⟨h1, u⟩ := m.fd f hf
    exact ⟨fun z => h1 (drop_sub z).1, u⟩
@[simp] theorem drop_cons {M : MM} {p : Addr} {mo : MO} (h : p ∉ keys M) : drop ((p, mo) :: M) p = M := by
  unfold drop
  rw [List.filter_cons, if_neg (by simp)]
  refine List.filter_eq_self.mpr fun q hq => ?_
  have : q.1 ≠ p := fun z => h (List.mem_map.mpr ⟨q, hq, z⟩)
  simp [this]
@[simp] theorem put_cons {M : MM} {p : Addr} {mo mo' : MO} (h : p ∉ keys M) : put ((p, mo) :: M) p mo' = (p, mo') :: M := by
  unfold put
  rw [List.map_cons, if_pos rfl]
  congr 1
  refine (List.map_congr_left fun q hq => ?_).trans (List.map_id _)
  have : q.1 ≠ p := fun z => h (List.mem_map.mpr ⟨q, hq, z⟩)
  rw [if_neg this]
  rfl
@[simp] theorem look_cons {M : MM} {p : Addr} {mo : MO} : List.lookup p ((p, mo) :: M) = some mo := by simp [List.lookup]
@[simp] theorem put_put (M : MM) (a : Addr) (x y : MO) : put (put M a x) a y = put M a y := by
  unfold put
  rw [List.map_map]
  refine List.map_congr_left fun p _ => ?_
  show (if (if p.1 = a then (a, x) else p).1 = a then (a, y) else (if p.1 = a then (a, x) else p)) = if p.1 = a then (a, y) else p
  by_cases h : p.1 = a
  · rw [if_pos h, if_pos rfl, if_pos h]
  · rw [if_neg h, if_neg h]

/-! ### defs and their promises -/
abbrev SpD := List D → MM → XD → QD → Prop
def KX (K : PySem.W.Frag) (F : List Addr) (H : Hp) (M : MM) (Z : XD) (E : XK) : Prop := ∀ C fs vs d H' M', Stp H (keys M) H' (keys M') → RMM K F H' M' → H' d = some (.xd vs) → d ∉ ak F M' → RepF K (ak F M') H' Str vs fs → Z C fs M' → E (.ref (He.ga K C)) (some d) H'
theorem KX.kw {K : PySem.W.Frag} {F : List Addr} {H : Hp} {M : MM} {Z : XD} {E : XK} (k : KX K F H M Z E) {σ : L2.St} : KW K F H M σ Z (fun c d _ H => E c d H) := fun C fs vs d H' M' st mm e n r q => k C fs vs d H' M' st mm e n r q
theorem KX.ws {K : PySem.W.Frag} {F : List Addr} {H : Hp} {M : MM} {Z : XD} {E : XK} (k : KX K F H M Z E) : KWS K F H M (fun C fs _ M => Z C fs M) (fun c d _ H => E c d H) := fun C fs vs d σ' ds' H' M' st tt e n r q => k C fs vs d H' M' st tt.mm e n r q
def spOf (K : PySem.W.Frag) (sp : SpD) : Sp := fun vs H Q E => ∃ F xs M Z QD, RMM K F H M ∧ RepA K (ak F M) H vs xs ∧ sp xs M Z QD ∧ KQ K F H M QD Q ∧ KX K F H M Z E
@[simp] def startD (N : List Str) (xs : List D) : SD := xs.map some ++ List.replicate (N.length - xs.length) none
theorem start_ok {K : PySem.W.Frag} {B : List Addr} {H : Hp} {vs : List V} {xs : List D} (N : List Str) (r : RepA K B H vs xs) : RSl K B H (start N vs) (startD N xs) := by
  refine ⟨by unfold start startD; simp [r.len], fun i d e => ?_⟩
  unfold startD at e
  unfold start
  by_cases hi : i < xs.length
  · rw [List.getElem?_append_left (by simpa using hi), List.getElem?_map] at e
    cases q : xs[i]? with
    | none => rw [q] at e; cases e
    | some x =>
      rw [q] at e
      cases e
      obtain ⟨v, h1, h2⟩ := r.get q
      refine ⟨v, ?_, h2⟩
      rw [List.getElem?_append_left (by simp [r.len]; exact hi), List.getElem?_map, h1]
      rfl
  · rw [List.getElem?_append_right (by simp; omega)] at e
    have := List.mem_of_getElem? e
    rw [List.mem_replicate] at this
    cases this.2
/-- what a def's body must give -/
abbrev BodyD (P : Program) (w : World) (K : PySem.W.Frag) (mg : Str → Option Value) (base : Heap) (N : List Str) (qual : Str) (scope : Scope) (f : Addr) (k : Nat) (body : List Stmt) (t : TSD) : Prop :=
  ∀ (X : Cx) (cdv : Value) (A : Around) (outer : List Env) (s : Shared) (H : Hp) (E : XK), X = cxOf (L2.CX P w) P w K mg base N qual scope f cdv A outer s H E → Room k X.A → PassesOwn (model X.prog X.w) X.A X.env X.xe → PSsD X body t
section
variable {P : Program} {w : World} {K : PySem.W.Frag} {mg : Str → Option Value} {base : Heap} {x qual : Str} {params : Arguments} {body : List Stmt} {scope : Scope} {dvs : List V} {kws : List (Str × V)} {f : Addr} {fd : FuncData}
theorem body_run {N : List Str} {k : Nat} {sp : SpD} {t : TSD} (hb : BodyD P w K mg base N qual scope f k body t) (hp : ∀ xs M Z Q, sp xs M Z Q → t { nx := fun _ M' => Q .non M', rt := Q, xc := fun C fs _ M' => Z C fs M' } (startD N xs) M)
    (cdv : Value) (A : Around) (outer : List Env) (s : Shared) (H : Hp) (vs : List V) (Q : VK) (E : XK) (hr : Room k (A.deeper (envOfC qual scope s.heap.objs.size f cdv))) (h : spOf K sp vs H Q E) :
    ∃ t, PSs (cxOf (L2.CX P w) P w K mg base N qual scope f cdv A outer s H E) body t ∧ t { nx := fun _ H' => Q .non H', rt := Q } (start N vs) H := by
  obtain ⟨F, xs, M, Z, QD, mm, r, h, kq, kx⟩ := h
  refine ⟨_, (hb _ cdv A outer s H E rfl hr (passes_of rfl)).ps (takes_of rfl rfl rfl rfl), ?_⟩
  refine ⟨F, startD N xs, M, _, ⟨mm, start_ok N r⟩, hp xs M Z QD h, ⟨fun σ' H' ds' M' st tt q => ?_, kq, fun _ _ _ _ _ _ q => q.elim, fun _ _ _ _ _ _ q => q.elim, kx.ws⟩⟩
  exact kq .non H' .non M' st tt.mm .non q
/-- a def -/
theorem fn_d {N ps : List Str} {k : Nat} {sp : SpD} (Fn : FunD K x qual params body scope dvs kws f fd) (S : FnScope N ps scope) {t : TSD} (hb : BodyD P w K mg base N qual scope f k body t)
    (hp : ∀ xs M Z Q, sp xs M Z Q → xs.length = ps.length ∧ t { nx := fun _ M' => Q .non M', rt := Q, xc := fun C fs _ M' => Z C fs M' } (startD N xs) M) : FnOk P w K mg base (L2.CX P w) (k + 1) f fd ps (spOf K sp) := by
  refine Fn.ok S (fun vs H Q E h => ?_) (fun cdv A outer s H vs Q E hr h => body_run hb (fun xs M Z Q h => (hp xs M Z Q h).2) cdv A outer s H vs Q E hr h)
  obtain ⟨F, xs, M, Z, QD, _, r, h, _⟩ := h
  rw [r.len]
  exact (hp _ _ _ _ h).1
/-! ### called by values: positional ones, keywords ks -/
abbrev SpS := List D → List D → MM → XD → QD → Prop
def FnS (P : Program) (w : World) (K : PySem.W.Frag) (mg : Str → Option Value) (base : Heap) (k : Nat) (f : Addr) (ks : List Str) (sp : SpS) : Prop :=
  ∀ (A : Around) (outer : List Env) (s : Shared) (H : Hp) (us ws : List Value) (vs zs : List V) (F : List Addr) (xs ys : List D) (M : MM) (Z : XD) (QD : QD) (Q : VK) (E : XK), Room k A → Env0 P w K mg base A outer s H → Vals vs us → Vals zs ws → zs.length = ks.length →
    RMM K F H M → RepA K (ak F M) H vs xs → RepA K (ak F M) H zs ys → sp xs ys M Z QD → KQ K F H M QD Q → KX K F H M Z E → codeAny (model P w) A (.call (.ref f) ⟨us, ks.zip ws⟩) (CR (L2.CX P w) outer P w H s Q E) s
theorem FnS.mono {j k : Nat} {ks : List Str} {sp : SpS} (h : FnS P w K mg base j f ks sp) (hj : j ≤ k) : FnS P w K mg base k f ks sp := fun A outer s H us ws vs zs F xs ys M Z QD Q E hr => h A outer s H us ws vs zs F xs ys M Z QD Q E (hr.mono hj)
theorem FnS.imp {k : Nat} {ks : List Str} {sp sp' : SpS} (h : FnS P w K mg base k f ks sp) (hi : ∀ xs ys M Z Q, sp' xs ys M Z Q → sp xs ys M Z Q) : FnS P w K mg base k f ks sp' := fun A outer s H us ws vs zs F xs ys M Z QD Q E hr e0 r1 r2 l mm a b q => h A outer s H us ws vs zs F xs ys M Z QD Q E hr e0 r1 r2 l mm a b (hi _ _ _ _ _ q)
def GRel (K : PySem.W.Frag) (gV : List V → List V → List V) (gD : List D → List D → List D) : Prop := ∀ B H vs zs xs ys, RepA K B H vs xs → RepA K B H zs ys → RepA K B H (gV vs zs) (gD xs ys)
/-- by the parameters' order: gD puts positional and keyword values into it -/
theorem fns_of {ps ks : List Str} {k n : Nat} {sp : SpD} {g : List Value → List Value → List Value} {gV : List V → List V → List V} {gD : List D → List D → List D} (Fn : FnOk P w K mg base (L2.CX P w) k f fd ps (spOf K sp)) (hb : KBn K fd ps n ks g gV) (hG : GRel K gV gD) :
    FnS P w K mg base k f ks (fun xs ys M Z Q => xs.length = n ∧ sp (gD xs ys) M Z Q) := by
  intro A outer s H us ws vs zs F xs ys M Z QD Q E hr e0 r1 r2 hl mm a b h kq kx
  have KI : K.In s.heap := e0.mod.kin.keeps fun b o e => (e0.bs b o e).1
  refine Fn.run A outer s H ⟨us, ks.zip ws⟩ (g us ws) (gV vs zs) Q E hr e0 (hb.to s us ws KI ?_ ?_) (hb.rel r1 r2) ⟨F, gD xs ys, M, Z, QD, mm, hG _ _ _ _ _ _ a b, h.2, kq, kx⟩
  · rw [← r1.length, a.len]; exact h.1
  · rw [← r2.length]; exact hl
/-- all parameters positional -/
theorem fns_all {ps : List Str} {k : Nat} {sp : SpD} (Fn : FnOk P w K mg base (L2.CX P w) k f fd ps (spOf K sp)) (hb : Binds K fd ps []) : FnS P w K mg base k f [] (fun xs _ M Z Q => sp xs M Z Q) := by
  intro A outer s H us ws vs zs F xs ys M Z QD Q E hr e0 r1 r2 hl mm a b h kq kx
  have KI : K.In s.heap := e0.mod.kin.keeps fun b o e => (e0.bs b o e).1
  have hq : spOf K sp vs H Q E := ⟨F, xs, M, Z, QD, mm, a, h, kq, kx⟩
  have hn : us.length = ps.length := by rw [← r1.length]; exact Fn.len _ _ _ _ hq
  have b2 := hb s us KI (by rw [List.append_nil]; exact hn)
  rw [List.append_nil] at b2
  exact Fn.run A outer s H ⟨us, []⟩ us vs Q E hr e0 b2 r1 hq
/-- the last parameters by their defaults -/
theorem fns_dfl {ps : List Str} {k n : Nat} {sp : SpD} {ds : List Value} {dvs : List V} {dD : List D} (Fn : FnOk P w K mg base (L2.CX P w) k f fd ps (spOf K sp)) (hb : Binds K fd ps ds) (hd : Vals dvs ds) (hD : ∀ B H, RepA K B H dvs dD) : FnS P w K mg base k f [] (fun xs _ M Z Q => sp (xs ++ dD) M Z Q) := by
  intro A outer s H us ws vs zs F xs ys M Z QD Q E hr e0 r1 r2 hl mm a b h kq kx
  have KI : K.In s.heap := e0.mod.kin.keeps fun b o e => (e0.bs b o e).1
  have hq : spOf K sp (vs ++ dvs) H Q E := ⟨F, xs ++ dD, M, Z, QD, mm, a.append (hD _ _), h, kq, kx⟩
  have r3 := r1.append hd
  have hn : (us ++ ds).length = ps.length := by rw [← r3.length]; exact Fn.len _ _ _ _ hq
  exact Fn.run A outer s H ⟨us, []⟩ (us ++ ds) (vs ++ dvs) Q E hr e0 (hb s us KI hn) r3 hq
/-- def f(a, .., *v) -/
theorem fns_star {N ps : List Str} {pv : Str} {k : Nat} {sp : SpD} (Fn : FunD K x qual params body scope [] kws f fd) (S : FnScope N (ps ++ [pv]) scope) {t : TSD} (hb : BodyD P w K mg base N qual scope f k body t)
    (hbind : ∀ (kV doc pm : Value) (an : Option Addr) (cdv ct : Value) (us rest : List Value), us.length = ps.length → bindArgs (PySem.W.fnOf x qual params body scope .none kV doc pm an cdv ct) ⟨us ++ rest, []⟩ = (newTuple rest >>= fun t => pure (ps.zip us ++ [(pv, t)])))
    (hp : ∀ xs M Z Q, sp xs M Z Q → t { nx := fun _ M' => Q .non M', rt := Q, xc := fun C fs _ M' => Z C fs M' } (startD N xs) M) :
    FnS P w K mg base (k + 1) f [] (fun xs _ M Z Q => ps.length ≤ xs.length ∧ xs.length ≤ sizeLine ∧ sp (xs.take ps.length ++ [.tup (xs.drop ps.length)]) M Z Q) := by
  obtain ⟨oc, od, dV, kV, doc, pm, an, cdv, ct, osl, rfl, lk, hcd, hD, hK⟩ := Fn.ex
  have hdv : dV = .none := by
    rcases hD with ⟨_, e⟩ | ⟨e, _⟩
    · exact e
    · exact absurd rfl e
  subst hdv
  have R := StX.fn_star (P := P) (w := w) (mg := mg) (base := base) (k := k) (sp := spOf K sp) lk hcd S StX.cxUp (hbind kV doc pm an cdv ct) fun A outer s H vs Q E hr h => body_run hb hp cdv A outer s H vs Q E hr h
  intro A outer s H us ws vs zs F xs ys M Z QD Q E hr e0 r1 r2 hl mm a b h kq kx
  refine R A outer s H us vs Q E hr e0 r1 ⟨vs.take ps.length, vs.drop ps.length, (List.take_append_drop _ _).symm, ?_, ?_, fun p hp => ?_⟩
  · rw [List.length_take, a.len]; omega
  · rw [List.length_drop, a.len]; omega
  · refine ⟨F, xs.take ps.length ++ [.tup (xs.drop ps.length)], M, Z, QD, mm.new hp, ?_, h.2.2, fun v H' d M' st mm' rp q => kq v H' d M' ((stp_new hp).trans st) mm' rp q, fun C fs vs d H' M' st mm' e n r q => kx C fs vs d H' M' ((stp_new hp).trans st) mm' e n r q⟩
    exact ((a.take _).step (stp_new hp).fix).append (.cons (mm.newT hp (a.drop _)) .nil)
end
section
variable {X : Cx} {W : WX} {pins : List (Addr × Obj)} {σ : L2.St} {H : Hp} {s : Shared} {F : List Addr} {ds : SD} {M : MM} {Z : XD} {k : Nat} {f C : Addr} {ks : List Str} {sp : SpS}
abbrev EPD (X : Cx) (F : List Addr) (pins : List (Addr × Obj)) (σ : L2.St) (H : Hp) (M : MM) (Q : QD) : Value → Shared → Prop := fun u s' => ∃ v H' d M', Inv X pins σ H' s' ∧ RelV v u ∧ Stp H (keys M) H' (keys M') ∧ RMM X.K F H' M' ∧ Rep X.K (ak F M') H' v d ∧ Q d M'
theorem EPD.up {H0 : Hp} {M0 : MM} {Q : QD} {u : Value} {s' : Shared} (st : Stp H0 (keys M0) H (keys M)) (h : EPD X F pins σ H M Q u s') : EPD X F pins σ H0 M0 Q u s' := by
  obtain ⟨v, H', d, M', I, r, s1, mm, rp, q⟩ := h
  exact ⟨v, H', d, M', I, r, st.trans s1, mm, rp, q⟩
theorem run_fnS {us ws : List Value} {vs zs : List V} {xs ys : List D} {Q : QD} (tk : Takes X W) (Fn : FnS X.prog X.w X.K X.mg X.base k f ks sp) (hr : Room k X.A) (I : Inv X pins σ H s) (mm : RMM X.K F H M) (kx : KW X.K F H M σ Z W) (r1 : Vals vs us) (r2 : Vals zs ws) (hl : zs.length = ks.length)
    (a : RepA X.K (ak F M) H vs xs) (b : RepA X.K (ak F M) H zs ys) (h : sp xs ys M Z Q) : wpAny (model X.prog X.w) X.A (call (.ref f) us (ks.zip ws)) (EPD X F pins σ H M Q) X.xe s := by
  refine wpAny_call (codeAny_mono (Fn X.A X.stack s H us ws vs zs F xs ys M Z Q (EQ X.K F H M Q) (fun c d H' => W c d σ H') hr I.env0 r1 r2 hl mm a b h KQ.eq fun C fs vs d H' M' st mm' e n r q => kx C fs vs d H' M' st mm' e n r q) fun r s' hq => ?_)
  cases r with
  | error e => exact tk e s' (XE.of_call I (fun _ _ _ z => z) hq)
  | ok fl =>
    cases fl with
    | ret u =>
      obtain ⟨v, H', I', rv, d, M', st, mm', rp, q⟩ := I.after hq
      exact ⟨v, H', d, M', I', rv, st, mm', rp, q⟩
    | next => exact False.elim hq
    | brk => exact False.elim hq
    | cont => exact False.elim hq
/-- a new instance -/
theorem stp_ins {H : Hp} {B : List Addr} {p dx C : Addr} (h : H p = none) (hd : H dx = none) (hne : dx ≠ p) : Stp H B (upd (upd H dx (.own p)) p (.ins C dx [])) (p :: B) :=
  ⟨fun b u _ e => by rw [upd_ne (ne_of_none e h), upd_ne (ne_of_none e hd)]; exact e, fun b hb => by
    rcases List.mem_cons.mp hb with e | hb
    · subst e; exact .inr h
    · exact .inl hb⟩
theorem RMM.ins {K : PySem.W.Frag} {H : Hp} {M : MM} {p dx : Addr} {C : Str} (m : RMM K F H M) (h : H p = none) (hd : H dx = none) (hne : dx ≠ p) : RMM K F (upd (upd H dx (.own p)) p (.ins (He.ga K C) dx [])) ((p, .obj C []) :: M) := by
  have h1 : upd H dx (.own p) p = none := by rw [upd_ne (Ne.symm hne)]; exact h
  exact (m.new hd).cons h1 ⟨dx, [], upd_same, .nil⟩
theorem run_mkS {us ws : List Value} {vs zs : List V} {xs ys : List D} {Cn : Str} {Q : QD} (tk : Takes X W) (Mk1 : Mk X.K (He.ga X.K Cn) f) (Fn : FnS X.prog X.w X.K X.mg X.base k f ks sp) (hr : Room (k + 1) X.A) (I : Inv X pins σ H s) (mm : RMM X.K F H M) (kx : KW X.K F H M σ Z W) (r1 : Vals vs us) (r2 : Vals zs ws) (hl : zs.length = ks.length)
    (a : RepA X.K (ak F M) H vs xs) (b : RepA X.K (ak F M) H zs ys) (h : ∀ p, p ∉ keys M → sp (.ref p :: xs) ys ((p, .obj Cn []) :: M) (fun E fs M3 => Z E fs (drop M3 p)) (fun v M3 => v = .non ∧ Q (.ref p) M3)) :
    wpAny (model X.prog X.w) X.A (call (.ref (He.ga X.K Cn)) us (ks.zip ws)) (EPD X F pins σ H M Q) X.xe s := by
  have hp : H (s.heap.objs.size + 1) = none := I.hok.fresh (Nat.le_succ _)
  have hd : H s.heap.objs.size = none := I.hok.fresh (Nat.le_refl _)
  have hne : s.heap.objs.size ≠ s.heap.objs.size + 1 := Nat.ne_of_lt (Nat.lt_succ_self _)
  have I2 := Inv.made (C := He.ga X.K Cn) I
  have hn := mm.notin hp
  rw [List.mem_append, not_or] at hn
  have hq := h _ hn.1
  have st := stp_ins (B := keys M) (C := He.ga X.K Cn) hp hd hne
  have m2 := RMM.ins (C := Cn) mm hp hd hne
  have fx : Fix H (ak F M) _ (ak F ((s.heap.objs.size + 1, MO.obj Cn []) :: M)) := (show Stp H (keys M) _ (keys ((s.heap.objs.size + 1, MO.obj Cn []) :: M)) from st).fix
  have rr : Vals (V.ref (s.heap.objs.size + 1) :: vs) (Value.ref (s.heap.objs.size + 1) :: us) := .cons rfl r1
  refine wpAny_call (make_map (f := f) I.kIn Mk1.makes Mk1.init (beq_iff_eq.mp Mk1.fn) (codeAny_mono (Fn _ X.stack _ _ (Value.ref (s.heap.objs.size + 1) :: us) ws _ zs F (.ref (s.heap.objs.size + 1) :: xs) ys ((s.heap.objs.size + 1, .obj Cn []) :: M) _ _
    (EQ X.K F _ ((s.heap.objs.size + 1, .obj Cn []) :: M) _) (fun c d H' => W c d σ H') (hr.make _ us (ks.zip ws)) (I2.env0.make _ us (ks.zip ws)) rr r2 hl m2 (.cons (.ref _) (a.step fx)) (b.step fx) hq KQ.eq fun C fs vs d H' M' st' mm' e n r q => ?_) fun r s' hq' => ?_))
  · have dp := (stp_drop (H := H') (M := M') (p := s.heap.objs.size + 1))
    refine kx C fs vs d H' (drop M' (s.heap.objs.size + 1)) ((st.trans st').trans dp) (mm'.drop _) e (fun z => n ?_) (r.step dp.fix) q
    rcases List.mem_append.mp z with z | z
    · exact List.mem_append_left _ (drop_sub z).1
    · exact List.mem_append_right _ z
  · cases r with
    | error e => exact tk e s' (XE.of_call I2 (fun _ _ _ z => z) hq')
    | ok fl =>
      cases fl with
      | ret u =>
        obtain ⟨v, H', I3, rv, d, M', st', mm', rp, ev, q3⟩ := I2.after hq'
        subst ev
        cases rp
        exact ⟨rv, ⟨V.ref (s.heap.objs.size + 1), H', .ref _, M', I3, rfl, st.trans st', mm', .ref _, q3⟩⟩
      | next => exact False.elim hq'
      | brk => exact False.elim hq'
      | cont => exact False.elim hq'
end
end L2.Dl

namespace L2.Dl
open PySem PySem.Spec PyProof.Rows
section
variable {X : Cx} {k n : Nat} {f g C : Addr} {fd : FuncData} {ps ks : List Str} {sp : SpS} {x m Cn : Str} {p pos apos : Pos} {e o : Expr} {es : List Expr} {t tk : TAD} {ta te to : TD} {kws : List Keyword}
/-! ### keywords -/
theorem kd_nil : PKD X [] dNil := ⟨fun W tk pos F pins s σ H ds M Z Q I hs hq =>
  thn (pk_nil.run pos pins s σ H (fun vs H' => vs = [] ∧ H' = H) I ⟨rfl, rfl⟩) fun us s' ⟨vs, H', I', r, e1, e2⟩ => by
    subst e1 e2
    exact ⟨[], _, [], M, I', r, .refl _ _, hs.mm, .nil, hq⟩⟩
theorem PKD.pk {W : WX} {kws : List Keyword} {t : TAD} (h : PKD X kws t) (tk : Takes X W) : PK X kws (taOf X.K W t) := by
  refine ⟨fun pos pins s σ H Q I hw => ?_⟩
  obtain ⟨F, ds, M, Z, QD, hs, ht, hq⟩ := hw
  refine thn (h.run W tk pos F pins s σ H ds M Z QD I hs ht) fun us s' hh => ?_
  obtain ⟨vs, H', xs, M', I', r, st, mm, rp, q⟩ := hh
  exact ⟨vs, H', I', r, hq vs H' xs M' st mm rp q⟩
theorem kd_cons {nm : Option Str} {kpos : Pos} {te : TD} (h : PD X e te) (hr : PKD X kws tk) : PKD X (⟨nm, e, kpos⟩ :: kws) (dCons te tk) := by
  refine ⟨fun W tks pos F pins s σ H ds M Z Q I hs ht => ?_⟩
  refine thn ((pk_cons (h.pe tks) (hr.pk tks)).run pos pins s σ H (fun vs H' => ∃ xs M', Stp H (keys M) H' (keys M') ∧ RMM X.K F H' M' ∧ RepA X.K (ak F M') H' vs xs ∧ Q xs M') I ?_) fun us s' hh => ?_
  · refine ⟨F, ds, M, _, _, hs, ht, fun v H1 d M1 st mm rp q => ?_⟩
    refine ⟨F, ds, M1, _, _, hs.to st mm, q, fun vs H2 xs M2 st2 mm2 rp2 q2 => ?_⟩
    exact ⟨d :: xs, M2, st.trans st2, mm2, .cons (rp.step st2.fix) rp2, q2⟩
  · obtain ⟨vs, H', I', r, xs, M', st, mm, rp, q⟩ := hh
    exact ⟨vs, H', xs, M', I', r, st, mm, rp, q⟩
/-! ### what is called -/
def CalS (X : Cx) (g : Addr) (ks : List Str) (r : SpS) : Prop := ∀ (W : WX), Takes X W → ∀ (pins : List (Addr × Obj)) (σ : L2.St) (H : Hp) (s : Shared) (F : List Addr) (M : MM) (Z : XD) (us ws : List Value) (vs zs : List V) (xs ys : List D) (Q : QD),
  Inv X pins σ H s → RMM X.K F H M → KW X.K F H M σ Z W → Vals vs us → Vals zs ws → zs.length = ks.length → RepA X.K (ak F M) H vs xs → RepA X.K (ak F M) H zs ys → r xs ys M Z Q → wpAny (model X.prog X.w) X.A (call (.ref g) us (ks.zip ws)) (EPD X F pins σ H M Q) X.xe s
theorem cal_fn (Fn : FnS X.prog X.w X.K X.mg X.base k f ks sp) (hr : Room k X.A) : CalS X f ks sp := fun W tk pins σ H s F M Z us ws vs zs xs ys Q I mm kx r1 r2 hl a b h => run_fnS tk Fn hr I mm kx r1 r2 hl a b h
def mkSp (Cn : Str) (sp : SpS) : SpS := fun xs ys M Z Q => ∀ p, p ∉ keys M → sp (.ref p :: xs) ys ((p, .obj Cn []) :: M) (fun E fs M3 => Z E fs (drop M3 p)) (fun v M3 => v = .non ∧ Q (.ref p) M3)
@[simp ↓] theorem mkSp_eq (Cn : Str) (sp : SpS) : ∀ xs ys M Z Q, mkSp Cn sp xs ys M Z Q = (∀ p, p ∉ keys M → sp (.ref p :: xs) ys ((p, .obj Cn []) :: M) (fun E fs M3 => Z E fs (drop M3 p)) (fun v M3 => v = .non ∧ Q (.ref p) M3)) := fun _ _ _ _ _ => rfl
theorem cal_mk (Mk1 : Mk X.K (He.ga X.K Cn) f) (Fn : FnS X.prog X.w X.K X.mg X.base k f ks sp) (hr : Room (k + 1) X.A) : CalS X (He.ga X.K Cn) ks (mkSp Cn sp) := fun W tk pins σ H s F M Z us ws vs zs xs ys Q I mm kx r1 r2 hl a b h => run_mkS tk Mk1 Fn hr I mm kx r1 r2 hl a b h
/-- what a callee asks: it is not looked into by itself -/
def ask (sp : SpS) (xs ys : List D) (M : MM) (Z : XD) (Q : QD) : Prop := sp xs ys M Z Q
theorem ask_congr {sp : SpS} {xs xs' ys ys' : List D} {M M' : MM} {Z : XD} {Q : QD} (h1 : xs = xs') (h2 : ys = ys') (h3 : M = M') : ask sp xs ys M Z Q = ask sp xs' ys' M' Z Q := by rw [h1, h2, h3]
def dCallS (sp : SpS) (t tk : TAD) : TD := fun ds M Z Q => t ds M Z fun xs M1 => tk ds M1 Z fun ys M2 => ask sp xs ys M2 Z Q
@[simp ↓] theorem dCallS_eq (sp : SpS) (t tk : TAD) : ∀ ds M Z Q, dCallS sp t tk ds M Z Q = (t ds M Z fun xs M1 => tk ds M1 Z fun ys M2 => ask sp xs ys M2 Z Q) := fun _ _ _ _ => rfl
/-- the data of one state are carried on -/
theorem arg2 {W : WX} {F : List Addr} {H H1 : Hp} {M M1 : MM} {vs : List V} {xs : List D} (st : Stp H (keys M) H1 (keys M1)) (r : RepA X.K (ak F M) H vs xs) : RepA X.K (ak F M1) H1 vs xs := r.step st.fix
/-- x(e, ..) -/
theorem d_call (Cl : CalS X g [] sp) (hk : PySem.W.keepIn X.K (.ref g) = true) (hm : X.mg x = some (.ref g)) (ha : PAD X (e :: es) t) (hg : Gl X x := by rfl) (hdb : (x == ("__debug__" : Str)) = false := by decide)
    (he : notStar e = true := by rfl) (hpl : noStars es = true := by rfl) : PD X (.Call (.Name x p) (e :: es) [] pos) (dCallS sp t dNil) := by
  refine ⟨fun W tks F pins s σ H ds M Z Q I hs ht => ?_⟩
  refine wpAny_Call_Name_kw (ld_glob I hg hm ?_ hdb)
  refine PySem.W.callWith_K (h₀ := X.base) I.ok.mod.kin hk (thn (ha.run W tks pos F pins s σ H ds M Z _ I hs ht) fun us s1 ⟨vs, H1, xs, M1, I1, r, st, mm, rp, q⟩ => ⟨I1.kIn, ?_⟩) (star_cons he) (star_any hpl)
  exact thn (Cl W tks pins σ H1 s1 F M1 Z us [] vs [] xs [] Q I1 mm (hs.kx.on st) r .nil rfl rp .nil q) fun u s' h => EPD.up st h
/-- x(e, .., *y) -/
theorem d_callS (Cl : CalS X g [] sp) (hk : PySem.W.keepIn X.K (.ref g) = true) (hm : X.mg x = some (.ref g)) (ha : PAD X (e :: es) t) (hg : Gl X x := by rfl) (hdb : (x == ("__debug__" : Str)) = false := by decide)
    (he : notStar e = true := by rfl) (hst : es.any (fun e => !notStar e) = true := by rfl) : PD X (.Call (.Name x p) (e :: es) [] pos) (dCallS sp t dNil) := by
  refine ⟨fun W tks F pins s σ H ds M Z Q I hs ht => ?_⟩
  refine wpAny_Call_Name_kw (ld_glob I hg hm ?_ hdb)
  refine PySem.W.callWith_S2 (h₀ := X.base) I.ok.mod.kin hk (thn (ha.run W tks pos F pins s σ H ds M Z _ I hs ht) fun us s1 ⟨vs, H1, xs, M1, I1, r, st, mm, rp, q⟩ => ⟨I1.kIn, ?_⟩) (star_cons he) (star_some hst)
  exact thn (Cl W tks pins σ H1 s1 F M1 Z us [] vs [] xs [] Q I1 mm (hs.kx.on st) r .nil rfl rp .nil q) fun u s' h => EPD.up st h
/-- x() -/
theorem d_call0 (Cl : CalS X g [] sp) (hk : PySem.W.keepIn X.K (.ref g) = true) (hm : X.mg x = some (.ref g)) (hg : Gl X x := by rfl) (hdb : (x == ("__debug__" : Str)) = false := by decide) : PD X (.Call (.Name x p) [] [] pos) (dCallS sp dNil dNil) := by
  refine ⟨fun W tks F pins s σ H ds M Z Q I hs ht => ?_⟩
  refine wpAny_Call_Name_kw (ld_glob I hg hm ?_ hdb)
  exact PySem.W.callWith_K0 I.kIn hk (Cl W tks pins σ H s F M Z [] [] [] [] [] [] Q I hs.mm hs.kx .nil .nil rfl .nil .nil ht)
/-- x(e, .., k = v, ..) -/
theorem d_callK (Cl : CalS X g ks sp) (hk : PySem.W.keepIn X.K (.ref g) = true) (hm : X.mg x = some (.ref g)) (ha : PAD X (e :: es) t) (hkw : PKD X kws tk) (hks : kwsOk kws ks = true := by rfl) (hg : Gl X x := by rfl)
    (hdb : (x == ("__debug__" : Str)) = false := by decide) (hpl : noStars (e :: es) = true := by rfl) :
    PD X (.Call (.Name x p) (e :: es) kws pos) (dCallS (fun xs ys M Z Q => ys.length = ks.length ∧ sp xs ys M Z Q) t tk) := by
  refine ⟨fun W tks F pins s σ H ds M Z Q I hs ht => ?_⟩
  have he : notStar e = true := (Bool.and_eq_true_iff.mp (show (notStar e && es.all notStar) = true from hpl)).1
  refine wpAny_Call_Name_kw (ld_glob I hg hm ?_ hdb)
  refine PySem.W.callWith_KW (h₀ := X.base) I.ok.mod.kin hk (kw_all hks) (thn (ha.run W tks pos F pins s σ H ds M Z _ I hs ht) fun us s1 ⟨vs, H1, xs, M1, I1, r, st, mm, rp, q⟩ => ?_) (by rw [star_any hpl, kw_none hks]; rfl) (star_cons he)
  refine thn (hkw.run W tks pos F pins s1 σ H1 ds M1 Z _ I1 (hs.to st mm) q) fun ws s2 ⟨zs, H2, ys, M2, I2, rz, st2, mm2, rp2, q2⟩ => ⟨I2.kIn, ?_⟩
  rw [kw_ks hks]
  have s12 := st.trans st2
  exact thn (Cl W tks pins σ H2 s2 F M2 Z us ws vs zs xs ys Q I2 mm2 (hs.kx.on s12) r rz (by rw [rp2.len]; exact q2.1) (rp.step st2.fix) rp2 q2.2) fun u s' h => EPD.up s12 h
/-- x(k = v, ..) -/
theorem d_callK0 (Cl : CalS X g ks sp) (hk : PySem.W.keepIn X.K (.ref g) = true) (hm : X.mg x = some (.ref g)) (hkw : PKD X kws tk) (hks : kwsOk kws ks = true := by rfl) (hg : Gl X x := by rfl)
    (hdb : (x == ("__debug__" : Str)) = false := by decide) :
    PD X (.Call (.Name x p) [] kws pos) (dCallS (fun xs ys M Z Q => ys.length = ks.length ∧ sp xs ys M Z Q) dNil tk) := by
  refine ⟨fun W tks F pins s σ H ds M Z Q I hs ht => ?_⟩
  refine wpAny_Call_Name_kw (ld_glob I hg hm ?_ hdb)
  refine PySem.W.callWith_KW0 (h₀ := X.base) I.ok.mod.kin hk (kw_all hks) ?_ (by rw [star_any (es := []) rfl, kw_none hks]; rfl)
  refine thn (hkw.run W tks pos F pins s σ H ds M Z _ I hs ht) fun ws s2 ⟨zs, H2, ys, M2, I2, rz, st2, mm2, rp2, q2⟩ => ⟨I2.kIn, ?_⟩
  rw [kw_ks hks]
  exact thn (Cl W tks pins σ H2 s2 F M2 Z [] ws [] zs [] ys Q I2 mm2 (hs.kx.on st2) .nil rz (by rw [rp2.len]; exact q2.1) .nil rp2 q2.2) fun u s' h => EPD.up st2 h
/-! ### stars -/
def dStar (te : TD) (t : TAD) : TAD := fun ds M Z Q => te ds M Z fun d M1 => match d with
  | .lst xs => t ds M1 Z fun ys M2 => Q (xs ++ ys) M2
  | .tup xs => t ds M1 Z fun ys M2 => Q (xs ++ ys) M2
  | _ => False
@[simp ↓] theorem dStar_eq (te : TD) (t : TAD) : ∀ ds M Z Q, dStar te t ds M Z Q = (te ds M Z fun d M1 => match d with
  | .lst xs => t ds M1 Z fun ys M2 => Q (xs ++ ys) M2
  | .tup xs => t ds M1 Z fun ys M2 => Q (xs ++ ys) M2
  | _ => False) := fun _ _ _ _ => rfl
theorem ad_star (he : PD X e te) (hr : PAD X es t) : PAD X (.Starred e p :: es) (dStar te t) := by
  have hs : starEach (.Starred e p :: es) X.env = (true, eval e X.env) :: starEach es X.env := by simp [starEach]
  refine ⟨fun W tks pos F pins s σ H ds M Z Q I hst ht => ?_⟩
  refine PySem.W.items_star (thn (he.run W tks F pins s σ H ds M Z _ I hst ht) fun v s1 ⟨y, H1, d, M1, I1, ry, st, mm, rp, q⟩ => ?_) hs
  have main : ∀ (a : Addr) (vs : List V) (xs : List D), y = .ref a → (SqT X.K H1 a vs ∨ SqL X.K H1 a vs) → RepA X.K (ak F M1) H1 vs xs → t ds M1 Z (fun ys M2 => Q (xs ++ ys) M2) →
      PySem.W.StarOf (model X.prog X.w) X.A X.xe v (fun here s₂ => wpAny (model X.prog X.w) X.A (spliced (backTo pos (starEach es X.env))) (fun vs s₃ => ∃ ws H' zs M', Inv X pins σ H' s₃ ∧ Vals ws (here ++ vs) ∧ Stp H (keys M) H' (keys M') ∧ RMM X.K F H' M' ∧ RepA X.K (ak F M') H' ws zs ∧ Q zs M') X.xe s₂) s1 := by
    intro a vs xs ey hx r q
    subst ey
    obtain rfl : v = Value.ref a := ry
    refine StX.star_any I1 hx fun us s2 I2 rv => ?_
    exact thn (hr.run W tks pos F pins s2 σ H1 ds M1 Z _ I2 (hst.to st mm) q) fun ws s3 ⟨vs2, H3, zs, M3, I3, r3, st3, mm3, rp3, q3⟩ => ⟨vs ++ vs2, H3, xs ++ zs, M3, I3, rv.append r3, st.trans st3, mm3, (r.step st3.fix).append rp3, q3⟩
  cases d with
  | lst xs => cases rp with
    | lst hx r => exact main _ _ _ rfl (.inr hx.sq) r q
  | tup xs => cases rp with
    | tup hx r => exact main _ _ _ rfl (.inl hx.sq) r q
  | _ => exact (show False from q).elim
/-- x(*y) -/
def dCallS1 (sp : SpS) (te : TD) : TD := fun ds M Z Q => te ds M Z fun d M1 => match d with
  | .lst xs => ask sp xs [] M1 Z Q
  | .tup xs => ask sp xs [] M1 Z Q
  | _ => False
@[simp ↓] theorem dCallS1_eq (sp : SpS) (te : TD) : ∀ ds M Z Q, dCallS1 sp te ds M Z Q = (te ds M Z fun d M1 => match d with
  | .lst xs => ask sp xs [] M1 Z Q
  | .tup xs => ask sp xs [] M1 Z Q
  | _ => False) := fun _ _ _ _ => rfl
theorem d_callS1 (Cl : CalS X g [] sp) (hk : PySem.W.keepIn X.K (.ref g) = true) (hm : X.mg x = some (.ref g)) (he : PD X e te) {sp_ : Pos} (hg : Gl X x := by rfl) (hdb : (x == ("__debug__" : Str)) = false := by decide) : PD X (.Call (.Name x p) [.Starred e sp_] [] pos) (dCallS1 sp te) := by
  have hst : starEach [.Starred e sp_] X.env = [(true, eval e X.env)] := by simp [starEach]
  refine ⟨fun W tks F pins s σ H ds M Z Q I hs ht => ?_⟩
  refine wpAny_Call_Name_kw (ld_glob I hg hm ?_ hdb)
  refine PySem.W.callWith_S (h₀ := X.base) I.ok.mod.kin hk (thn (he.run W tks F pins s σ H ds M Z _ I hs ht) fun v s1 ⟨y, H1, d, M1, I1, ry, st, mm, rp, q⟩ => ?_) hst
  have main : ∀ (a : Addr) (vs : List V) (xs : List D), y = .ref a → (SqT X.K H1 a vs ∨ SqL X.K H1 a vs) → RepA X.K (ak F M1) H1 vs xs → sp xs [] M1 Z Q →
      PySem.W.StarOf (model X.prog X.w) X.A X.xe v (fun vs s₂ => X.K.In s₂.heap ∧ wpAny (model X.prog X.w) X.A (call (.ref g) ([] ++ vs)) (EPD X F pins σ H M Q) X.xe s₂) s1 := by
    intro a vs xs ey hx r q
    subst ey
    obtain rfl : v = Value.ref a := ry
    refine StX.star_any I1 hx fun us s2 I2 rv => ⟨I2.kIn, ?_⟩
    exact thn (Cl W tks pins σ H1 s2 F M1 Z us [] vs [] xs [] Q I2 mm (hs.kx.on st) rv .nil rfl r .nil q) fun u s' h => EPD.up st h
  cases d with
  | lst xs => cases rp with
    | lst hx r => exact main _ _ _ rfl (.inr hx.sq) r q
  | tup xs => cases rp with
    | tup hx r => exact main _ _ _ rfl (.inl hx.sq) r q
  | _ => exact (show False from q).elim
end
end L2.Dl

namespace L2.Dl
open PySem PySem.Spec PyProof.Rows
section
variable {X : Cx} {a b c o e : Expr} {es : List Expr} {ta tb tc to te : TD} {t : TAD} {pos apos cpos : Pos}
def dLstM (t : TAD) : TD := fun ds M Z Q => t ds M Z fun xs M1 => xs.length ≤ sizeLine ∧ ∀ p, p ∉ keys M1 → Q (.ref p) ((p, .lst xs) :: M1)
@[simp ↓] theorem dLstM_eq (t : TAD) : ∀ ds M Z Q, dLstM t ds M Z Q = (t ds M Z fun xs M1 => xs.length ≤ sizeLine ∧ ∀ p, p ∉ keys M1 → Q (.ref p) ((p, .lst xs) :: M1)) := fun _ _ _ _ => rfl
theorem d_lstM (h : PAD X es t) : PD X (.List es pos) (dLstM t) := by
  refine PD.of (fun W tk => pe_lst (h.pa tk)) fun W F σ H ds M Z Q hs ht => ?_
  refine ⟨F, ds, M, _, _, hs, ht, fun vs H1 xs M1 st mm rp q => ⟨by rw [rp.len]; exact q.1, fun p hp => ?_⟩⟩
  have hn := mm.notin hp
  rw [List.mem_append, not_or] at hn
  exact ⟨_, (p, .lst xs) :: M1, st.trans (stp_cons hp), mm.consL hp rp, .ref p, q.2 p hn.1⟩
@[simp] def frzO : MO → Option D
  | .lst xs => some (.lst xs) | .obj C fs => some (.obj C fs) | .dK fs => some (.dK fs) | .dT fs => some (.dT fs) | .bag => none
/-- a thing that is done changing -/
def dFrz (t : TD) : TD := fun ds M Z Q => t ds M Z fun d M1 => match d with
  | .ref p => optK ((M1.lookup p).bind frzO) fun d => letK (drop M1 p) fun M2 => Q d M2
  | _ => False
@[simp ↓] theorem dFrz_eq (t : TD) : ∀ ds M Z Q, dFrz t ds M Z Q = (t ds M Z fun d M1 => match d with
  | .ref p => optK ((M1.lookup p).bind frzO) fun d => letK (drop M1 p) fun M2 => Q d M2
  | _ => False) := fun _ _ _ _ => rfl
theorem frz_ok {K : PySem.W.Frag} {F : List Addr} {H : Hp} {M : MM} {p : Addr} {mo : MO} (m : RMM K F H M) (h : M.lookup p = some mo) : p ∉ ak F (drop M p) ∧ RepO K (ak F (drop M p)) H p mo := by
  refine ⟨fun z => ?_, (m.get h).step stp_drop.fix rfl⟩
  rcases List.mem_append.mp z with z | z
  · exact (drop_sub z).2 rfl
  · exact (m.fd p z).1 (lookup_key h)
theorem d_frz (h : PD X e te) : PD X e (dFrz te) := by
  refine ⟨fun W tk F pins s σ H ds M Z Q I hs ht => ?_⟩
  refine thn (h.run W tk F pins s σ H ds M Z _ I hs ht) fun u s' hh => ?_
  obtain ⟨v, H', d, M', I', r, st, mm, rp, q⟩ := hh
  cases d with
  | ref p =>
    cases rp
    have q : optK ((M'.lookup p).bind frzO) fun d => Q d (drop M' p) := q
    cases e1 : M'.lookup p with
    | none => rw [e1] at q; exact q.elim
    | some mo =>
      rw [e1] at q
      cases mo with
      | lst xs =>
        obtain ⟨n, vs, h1, h2⟩ := frz_ok mm e1
        exact ⟨_, H', _, drop M' p, I', r, st.trans stp_drop, mm.drop p, .lst ⟨n, h1⟩ h2, q⟩
      | obj C fs =>
        obtain ⟨n, dx, vs, h1, h2⟩ := frz_ok mm e1
        exact ⟨_, H', _, drop M' p, I', r, st.trans stp_drop, mm.drop p, .obj n h1 h2, q⟩
      | dK fs =>
        obtain ⟨n, vs, h1, h2⟩ := frz_ok mm e1
        exact ⟨_, H', _, drop M' p, I', r, st.trans stp_drop, mm.drop p, .dK n h1 h2, q⟩
      | dT fs =>
        obtain ⟨n, vs, h1, h2⟩ := frz_ok mm e1
        exact ⟨_, H', _, drop M' p, I', r, st.trans stp_drop, mm.drop p, .dT n h1 h2, q⟩
      | bag => exact q.elim
  | _ => exact (show False from q).elim

/-! ### methods of built-in types -/
@[simp] def tyM : D → MM → Option String
  | .str _, _ => some "str"
  | .int _, _ => some "int"
  | .lst _, _ => some "list"
  | .ref p, M => (match M.lookup p with | some (.lst _) => some "list" | _ => none)
  | _, _ => none
theorem tyM_ok {K : PySem.W.Frag} {F : List Addr} {H : Hp} {M : MM} {v : V} {d : D} {T : String} (m : RMM K F H M) (r : Rep K (ak F M) H v d) (h : tyM d M = some T) : tyV K T v H := by
  cases r with
  | str x => cases h; rfl
  | int i => cases h; rfl
  | lst hx r => cases h; exact .inl ⟨rfl, _, hx.sq⟩
  | ref p =>
    have h : (match M.lookup p with | some (.lst _) => some "list" | _ => none) = some T := h
    split at h
    · rename_i xs e
      cases h
      obtain ⟨vs, h1, _⟩ := m.get e
      exact .inl ⟨rfl, vs, .inl (.inl h1)⟩
    · cases h
  | _ => cases h
abbrev RMD := D → List D → MM → QD → Prop
def MtD (X : Cx) (id : String) (r : RMD) : Prop := ∃ rv, MtR X id rv ∧ ∀ F H M x vs dx xs Q QV, RMM X.K F H M → Rep X.K (ak F M) H x dx → RepA X.K (ak F M) H vs xs → r dx xs M Q → KQ X.K F H M Q QV → rv x vs H QV
def dBM (T : String) (r : RMD) (to : TD) (t : TAD) : TD := fun ds M Z Q => to ds M Z fun x M1 => tyM x M1 = some T ∧ t ds M1 Z fun xs M2 => r x xs M2 Q
@[simp ↓] theorem dBM_eq (T : String) (r : RMD) (to : TD) (t : TAD) : ∀ ds M Z Q, dBM T r to t ds M Z Q = (to ds M Z fun x M1 => tyM x M1 = some T ∧ t ds M1 Z fun xs M2 => r x xs M2 Q) := fun _ _ _ _ => rfl
theorem d_bm {T : String} {name : Str} {id : String} {r : RMD} (pa : PlainAttrs T) (slot : Slot T name id) (hty : typeOf (.builtin id) = pure (.type "method_descriptor")) (hm : MtD X id r) (ho : PD X o to) (ha : PAD X (e :: es) t)
    (hbase : attributeBase o name X.env (eval o X.env) = eval o X.env := by rfl)
    (hfew : decide ((e :: es).length < 30) = true := by rfl) (hline : (apos.endLine == cpos.line) = true := by rfl) (hpl : noStars (e :: es) = true := by rfl) :
    PD X (.Call (.Attribute o name apos) (e :: es) [] cpos) (dBM T r to t) := by
  have he : notStar e = true := (Bool.and_eq_true_iff.mp (show (notStar e && es.all notStar) = true from hpl)).1
  have hes : noStars es = true := (Bool.and_eq_true_iff.mp (show (notStar e && es.all notStar) = true from hpl)).2
  obtain ⟨rv, m, hr⟩ := hm
  refine PD.of (fun W tk => pe_bm pa slot hty m (ho.pe tk) (ha.pa tk) hbase (by rw [star_all hpl, kw_each]; simpa [backToKw] using hfew) hline (star_cons he) (star_any hes)) fun W F σ H ds M Z Q hst ht => ?_
  refine ⟨F, ds, M, _, _, hst, ht, fun v H1 d M1 st mm rp q => ⟨tyM_ok mm rp q.1, ?_⟩⟩
  refine ⟨F, ds, M1, _, _, hst.to st mm, q.2, fun vs H2 xs M2 st2 mm2 rp2 q2 => ?_⟩
  exact hr F H2 M2 v vs d xs Q _ mm2 (rp.step st2.fix) rp2 q2 (KQ.eq.on (st.trans st2))
theorem d_bm0 {T : String} {name : Str} {id : String} {r : RMD} (pa : PlainAttrs T) (slot : Slot T name id) (hty : typeOf (.builtin id) = pure (.type "method_descriptor")) (hm : MtD X id r) (ho : PD X o to)
    (hbase : attributeBase o name X.env (eval o X.env) = eval o X.env := by rfl) (hline : (apos.endLine == cpos.line) = true := by rfl) : PD X (.Call (.Attribute o name apos) [] [] cpos) (dBM T r to dNil) := by
  obtain ⟨rv, m, hr⟩ := hm
  refine PD.of (fun W tk => pe_bm0 pa slot hty m (ho.pe tk) hbase hline) fun W F σ H ds M Z Q hst ht => ?_
  refine ⟨F, ds, M, _, _, hst, ht, fun v H1 d M1 st mm rp q => ⟨tyM_ok mm rp q.1, ?_⟩⟩
  exact hr F H1 M1 v [] d [] Q _ mm rp .nil q.2 (KQ.eq.on st)
def dAppend : RMD := fun x xs M Q => match x, xs with
  | .ref p, [d] => lstK (M.lookup p) fun ys => ys.length < sizeLine ∧ letK (put M p (.lst (ys ++ [d]))) fun M' => Q .non M'
  | _, _ => False
@[simp ↓] theorem dAppend_eq : ∀ x xs M Q, dAppend x xs M Q = (match x, xs with
  | .ref p, [d] => lstK (M.lookup p) fun ys => ys.length < sizeLine ∧ letK (put M p (.lst (ys ++ [d]))) fun M' => Q .non M'
  | _, _ => False) := fun _ _ _ _ => rfl
theorem m_append : MtD X "list.append" dAppend := by
  refine ⟨_, mt_append, fun F H M x vs dx xs Q QV mm rx rp hr k => ?_⟩
  match dx, xs, hr with
  | .ref p, [d], hr =>
    cases rx
    obtain ⟨v, rfl, r⟩ := repA1 rp
    have hr : lstK (M.lookup p) (fun ys => ys.length < sizeLine ∧ Q .non (put M p (.lst (ys ++ [d])))) := hr
    unfold lstK at hr
    split at hr
    · rename_i ys e
      obtain ⟨ws, h1, h2⟩ := mm.get e
      have hk := lookup_key e
      exact ⟨p, ws, v, rfl, rfl, h1, by rw [h2.len]; exact hr.1, k.put mm hk (RMM.putL hk (h2.append (.cons r .nil))) .non hr.2⟩
    · exact hr.elim
def dInsert : RMD := fun x xs M Q => match x, xs with
  | .ref p, [.int i, d] => lstK (M.lookup p) fun ys => ys.length < sizeLine ∧ 0 ≤ i ∧ i < 2 ^ 63 ∧ letK (put M p (.lst (ys.take i.toNat ++ [d] ++ ys.drop i.toNat))) fun M' => Q .non M'
  | _, _ => False
@[simp ↓] theorem dInsert_eq : ∀ x xs M Q, dInsert x xs M Q = (match x, xs with
  | .ref p, [.int i, d] => lstK (M.lookup p) fun ys => ys.length < sizeLine ∧ 0 ≤ i ∧ i < 2 ^ 63 ∧ letK (put M p (.lst (ys.take i.toNat ++ [d] ++ ys.drop i.toNat))) fun M' => Q .non M'
  | _, _ => False) := fun _ _ _ _ => rfl
theorem m_insert : MtD X "list.insert" dInsert := by
  refine ⟨_, mt_insert, fun F H M x vs dx xs Q QV mm rx rp hr k => ?_⟩
  match dx, xs, hr with
  | .ref p, [.int i, d], hr =>
    cases rx
    obtain ⟨v, w, rfl, r1, r2⟩ := repA2 rp
    cases r1
    have hr : lstK (M.lookup p) (fun ys => ys.length < sizeLine ∧ 0 ≤ i ∧ i < 2 ^ 63 ∧ Q .non (put M p (.lst (ys.take i.toNat ++ [d] ++ ys.drop i.toNat)))) := hr
    unfold lstK at hr
    split at hr
    · rename_i ys e
      obtain ⟨ws, h1, h2⟩ := mm.get e
      have hk := lookup_key e
      exact ⟨p, ws, i, w, rfl, rfl, h1, by rw [h2.len]; exact hr.1, hr.2.1, hr.2.2.1, k.put mm hk (RMM.putL hk (((h2.take _).append (.cons r2 .nil)).append (h2.drop _))) .non hr.2.2.2⟩
    · exact hr.elim
def dExtend : RMD := fun x xs M Q => match x, xs with
  | .ref p, [.lst zs] => lstK (M.lookup p) fun ys => ys.length + zs.length ≤ sizeLine ∧ letK (put M p (.lst (ys ++ zs))) fun M' => Q .non M'
  | _, _ => False
@[simp ↓] theorem dExtend_eq : ∀ x xs M Q, dExtend x xs M Q = (match x, xs with
  | .ref p, [.lst zs] => lstK (M.lookup p) fun ys => ys.length + zs.length ≤ sizeLine ∧ letK (put M p (.lst (ys ++ zs))) fun M' => Q .non M'
  | _, _ => False) := fun _ _ _ _ => rfl
theorem m_extend : MtD X "list.extend" dExtend := by
  refine ⟨_, mt_extend, fun F H M x vs dx xs Q QV mm rx rp hr k => ?_⟩
  match dx, xs, hr with
  | .ref p, [.lst zs], hr =>
    cases rx
    obtain ⟨v, rfl, r⟩ := repA1 rp
    have hr : lstK (M.lookup p) (fun ys => ys.length + zs.length ≤ sizeLine ∧ Q .non (put M p (.lst (ys ++ zs)))) := hr
    unfold lstK at hr
    split at hr
    · rename_i ys e
      obtain ⟨ws, h1, h2⟩ := mm.get e
      have hk := lookup_key e
      cases r with
      | lst hx r => exact ⟨p, _, ws, _, rfl, rfl, h1, hx.2, by rw [h2.len, r.len]; exact hr.1, k.put mm hk (RMM.putL hk (h2.append r)) .non hr.2⟩
    · exact hr.elim
@[simp] def strsD : List D → Option (List Str)
  | [] => some []
  | .str b :: r => (strsD r).map (b :: ·)
  | _ => none
theorem strsD_map (bs : List Str) : strsD (bs.map D.str) = some bs := by
  induction bs with
  | nil => rfl
  | cons b r ih => show (strsD (r.map D.str)).map (b :: ·) = _; rw [ih]; rfl
theorem RepA.strs {K : PySem.W.Frag} {B : List Addr} {H : Hp} : ∀ {vs : List V} {ds : List D} {bs : List Str}, RepA K B H vs ds → strsD ds = some bs → vs = bs.map V.str
  | _, _, _, .nil, e => by cases e; rfl
  | _, _, _, @RepA.cons _ _ _ v vs d ds h r, e => by
    cases d with
    | str b =>
      cases h
      simp only [strsD, Option.map_eq_some_iff] at e
      obtain ⟨q, h1, rfl⟩ := e
      rw [RepA.strs r h1]
      rfl
    | _ => cases e
theorem repA_strs {K : PySem.W.Frag} {B : List Addr} {H : Hp} : ∀ (bs : List Str), bs.all PyData.strOk = true → RepA K B H (bs.map V.str) (bs.map D.str)
  | [], _ => .nil
  | b :: r, h => by
    rw [List.all_cons, Bool.and_eq_true] at h
    exact .cons (.str b h.1) (repA_strs r h.2)
theorem RepA.oks {K : PySem.W.Frag} {B : List Addr} {H : Hp} : ∀ {vs : List V} {ds : List D} {bs : List Str}, RepA K B H vs ds → strsD ds = some bs → ∀ b ∈ bs, PyData.strOk b = true
  | _, _, _, .nil, e => by cases e; simp
  | _, _, _, @RepA.cons _ _ _ v vs d ds h r, e => by
    cases d with
    | str b =>
      simp only [strsD, Option.map_eq_some_iff] at e
      obtain ⟨q, h1, rfl⟩ := e
      cases h with
      | str _ hb =>
        intro c hc
        rcases List.mem_cons.mp hc with e | hc
        · subst e; exact hb
        · exact RepA.oks r h1 c hc
    | _ => simp [strsD] at e
theorem okS_join {a : Str} (ha : PyData.strOk a = true) : ∀ {ss : List Str}, (∀ b ∈ ss, PyData.strOk b = true) → PyData.strOk (Str.join a ss) = true
  | [], _ => (by decide +kernel : PyData.strOk Str.empty = true)
  | [b], h => h b List.mem_cons_self
  | b :: c :: r, h => okS_app (okS_app (h b List.mem_cons_self) ha) (okS_join ha fun d hd => h d (List.mem_cons_of_mem _ hd))
def dJoin : RMD := fun x xs M Q => match x, xs with
  | .str a, [.lst ys] => optK (strsD ys) fun ss => (ss.map (·.length)).sum + ss.length * a.length ≤ 16777216 ∧ Q (.str (Str.join a ss)) M
  | .str a, [.tup ys] => optK (strsD ys) fun ss => (ss.map (·.length)).sum + ss.length * a.length ≤ 16777216 ∧ Q (.str (Str.join a ss)) M
  | _, _ => False
@[simp ↓] theorem dJoin_eq : ∀ x xs M Q, dJoin x xs M Q = (match x, xs with
  | .str a, [.lst ys] => optK (strsD ys) fun ss => (ss.map (·.length)).sum + ss.length * a.length ≤ 16777216 ∧ Q (.str (Str.join a ss)) M
  | .str a, [.tup ys] => optK (strsD ys) fun ss => (ss.map (·.length)).sum + ss.length * a.length ≤ 16777216 ∧ Q (.str (Str.join a ss)) M
  | _, _ => False) := fun _ _ _ _ => rfl
theorem m_join : MtD X "str.join" dJoin := by
  refine ⟨_, mt_join, fun F H M x vs dx xs Q QV mm rx rp hr k => ?_⟩
  match dx, xs, hr with
  | .str a, [.lst ys], hr =>
    have ha : PyData.strOk a = true := by cases rx with | str _ h => exact h
    cases rx
    obtain ⟨v, rfl, r⟩ := repA1 rp
    have hr : optK (strsD ys) (fun ss => (ss.map (·.length)).sum + ss.length * a.length ≤ 16777216 ∧ Q (.str (Str.join a ss)) M) := hr
    unfold optK at hr
    split at hr
    · rename_i ss e
      cases r with
      | lst hx r =>
        have e2 := r.strs e
        subst e2
        exact ⟨a, _, ss, rfl, rfl, .inl hx.sq, hr.1, by rw [TL.join_eq]; exact k.at mm (.str _ (okS_join ha (r.oks e))) hr.2⟩
    · exact hr.elim
  | .str a, [.tup ys], hr =>
    have ha : PyData.strOk a = true := by cases rx with | str _ h => exact h
    cases rx
    obtain ⟨v, rfl, r⟩ := repA1 rp
    have hr : optK (strsD ys) (fun ss => (ss.map (·.length)).sum + ss.length * a.length ≤ 16777216 ∧ Q (.str (Str.join a ss)) M) := hr
    unfold optK at hr
    split at hr
    · rename_i ss e
      cases r with
      | tup hx r =>
        have e2 := r.strs e
        subst e2
        exact ⟨a, _, ss, rfl, rfl, .inr hx.sq, hr.1, by rw [TL.join_eq]; exact k.at mm (.str _ (okS_join ha (r.oks e))) hr.2⟩
    · exact hr.elim
def dSplit : RMD := fun x xs M Q => match x, xs with
  | .str a, [.str b] => (b.length == 0) = false ∧ a.length + 2 ≤ sizeLine ∧ (Txt.split a b).all PyData.strOk = true ∧ Q (.lst ((Txt.split a b).map D.str)) M
  | _, _ => False
@[simp ↓] theorem dSplit_eq : ∀ x xs M Q, dSplit x xs M Q = (match x, xs with
  | .str a, [.str b] => (b.length == 0) = false ∧ a.length + 2 ≤ sizeLine ∧ (Txt.split a b).all PyData.strOk = true ∧ Q (.lst ((Txt.split a b).map D.str)) M
  | _, _ => False) := fun _ _ _ _ => rfl
theorem m_split : MtD X "str.split" dSplit := by
  refine ⟨_, mt_split, fun F H M x vs dx xs Q QV mm rx rp hr k => ?_⟩
  match dx, xs, hr with
  | .str a, [.str b], hr =>
    cases rx
    obtain ⟨v, rfl, r⟩ := repA1 rp
    cases r
    exact ⟨a, b, rfl, rfl, hr.1, hr.2.1, k.newL mm (repA_strs _ hr.2.2.1) hr.2.2.2⟩

/-! ### slices -/
abbrev TOD := SD → MM → XD → (Option Int → MM → Prop) → Prop
structure POD (X : Cx) (e : Option Expr) (t : TOD) : Prop where
  run : ∀ W, Takes X W → ∃ tv, PO X e tv ∧ ∀ F σ H ds M Z Q, Stt X.K W F H σ ds M Z → t ds M Z Q → ∀ QV : Option Int → Hp → Prop, (∀ o H' M', Stp H (keys M) H' (keys M') → RMM X.K F H' M' → Q o M' → QV o H') → tv σ H QV
def dNoPart : TOD := fun _ M _ Q => Q none M
@[simp ↓] theorem dNoPart_eq : ∀ w0 M w2 Q, dNoPart w0 M w2 Q = (Q none M) := fun _ _ _ _ => rfl
def dPart (t : TD) : TOD := fun ds M Z Q => t ds M Z fun x M1 => match x with | .int i => Q (some i) M1 | _ => False
@[simp ↓] theorem dPart_eq (t : TD) : ∀ ds M Z Q, dPart t ds M Z Q = (t ds M Z fun x M1 => match x with | .int i => Q (some i) M1 | _ => False) := fun _ _ _ _ => rfl
theorem od_none : POD X none dNoPart := ⟨fun W tk => ⟨_, po_none, fun F σ H ds M Z Q hs ht QV k => k none H M (.refl _ _) hs.mm ht⟩⟩
theorem od_some (h : PD X e te) : POD X (some e) (dPart te) := by
  refine ⟨fun W tk => ?_⟩
  refine ⟨_, po_some (h.pe tk), fun F σ H ds M Z Q hs ht QV k => ?_⟩
  refine ⟨F, ds, M, _, _, hs, ht, fun v H' d M' st mm rp q => ?_⟩
  cases d with
  | int i => cases rp; exact ⟨i, rfl, k _ H' M' st mm q⟩
  | _ => exact (show False from q).elim
def cutD {α : Type} (xs : List α) (lo hi : Option Int) : List α := (xs.drop (HT.sIx xs.length 0 lo)).take (HT.sIx xs.length xs.length hi - HT.sIx xs.length 0 lo)
theorem RepA.cut {K : PySem.W.Frag} {B : List Addr} {H : Hp} {vs : List V} {xs : List D} (r : RepA K B H vs xs) (lo hi : Option Int) : RepA K B H (cutV vs lo hi) (cutD xs lo hi) := by
  unfold cutV cutD
  rw [r.len]
  exact (r.drop _).take _
theorem cutD_whole {α : Type} {xs : List α} {lo hi : Option Int} (h : HT.sIx xs.length 0 lo = 0 ∧ HT.sIx xs.length xs.length hi = xs.length) : cutD xs lo hi = xs := by
  unfold cutD
  rw [h.1, h.2]
  simp
@[simp] def dSlR (x : D) (lo hi : Option Int) (M : MM) (Q : QD) : Prop := match x with
  | .lst xs => Q (.lst (cutD xs lo hi)) M
  | .tup xs => Q (.tup (cutD xs lo hi)) M
  | .str z => z.length ≤ sizeLine ∧ Q (.str (cutS z lo hi)) M
  | .scr ns => Q (.lst ((cutD ns lo hi).map D.int)) M
  | _ => False
def dSl (te : TD) (tl th : TOD) : TD := fun ds M Z Q => te ds M Z fun x M1 => tl ds M1 Z fun l M2 => th ds M2 Z fun u M3 => dSlR x l u M3 Q
@[simp ↓] theorem dSl_eq (te : TD) (tl th : TOD) : ∀ ds M Z Q, dSl te tl th ds M Z Q = (te ds M Z fun x M1 => tl ds M1 Z fun l M2 => th ds M2 Z fun u M3 => dSlR x l u M3 Q) := fun _ _ _ _ => rfl
theorem repA_ints {K : PySem.W.Frag} {B : List Addr} {H : Hp} : ∀ (ns : List Int), RepA K B H (ns.map V.int) (ns.map D.int)
  | [] => .nil
  | b :: r => .cons (.int b) (repA_ints r)
theorem d_slice {lo hi : Option Expr} {tl th : TOD} {p2 : Pos} (he : PD X e te) (hl : POD X lo tl) (hu : POD X hi th) : PD X (.Subscript e (.Slice lo hi none p2) pos) (dSl te tl th) := by
  refine ⟨fun W tk F pins s σ H ds M Z Q I hs ht => ?_⟩
  obtain ⟨vl, pl, hl⟩ := hl.run W tk
  obtain ⟨vu, pu, hu⟩ := hu.run W tk
  suffices h : _ from thn ((pe_slice (SlR.or sl_list (SlR.or sl_tupA sl_str)) (he.pe tk) pl pu).run pins s σ H (EQ X.K F H M Q) I h) fun u s' hh => by
    obtain ⟨v, H', I', r, d, M', st, mm, rp, q⟩ := hh
    exact ⟨v, H', d, M', I', r, st, mm, rp, q⟩
  refine ⟨F, ds, M, _, _, hs, ht, fun v H1 d M1 st mm rp q => ?_⟩
  refine hl F σ H1 ds M1 _ _ (hs.to st mm) q _ fun l H2 M2 st2 mm2 q2 => ?_
  refine hu F σ H2 ds M2 _ _ (hs.to (st.trans st2) mm2) q2 _ fun u H3 M3 st3 mm3 q3 => ?_
  have rp3 := (rp.step st2.fix).step st3.fix
  have k := (KQ.eq (K := X.K) (F := F) (H := H) (M := M) (Q := Q)).on ((st.trans st2).trans st3)
  cases d with
  | lst xs =>
    cases rp3 with
    | lst hx r => exact .inl ⟨_, _, rfl, hx.sq, k.newL mm3 (r.cut l u) q3⟩
  | tup xs =>
    cases rp3 with
    | tup hx r =>
      refine .inr (.inl ⟨_, _, rfl, hx.sq, fun hw => ?_, fun hw => k.newT mm3 (r.cut l u) q3⟩)
      refine k.at mm3 (.tup hx r) ?_
      have q4 : Q (.tup (cutD xs l u)) M3 := q3
      rw [cutD_whole (by rw [← r.len]; exact hw)] at q4
      exact q4
  | str z =>
    cases rp3 with
    | str _ hz => exact .inr (.inr ⟨z, rfl, q3.1, k.at mm3 (.str _ (okS_sub hz fun c hc => List.mem_of_mem_drop (List.mem_of_mem_take hc))) q3.2⟩)
  | scr ns =>
    cases rp3 with
    | scr hx =>
      refine .inl ⟨_, _, rfl, hx.sq, fun p hp => ?_⟩
      have e : cutV (ns.map V.int) l u = (cutD ns l u).map V.int := by
        unfold cutV cutD
        rw [List.length_map, List.map_take, List.map_drop]
      rw [e]
      exact k.newL mm3 (repA_ints _) q3 p hp
  | _ => exact (show False from q3).elim
end
end L2.Dl

namespace L2.Dl
open PySem PySem.Spec PyProof.Rows
section
variable {X : Cx} {a b c : Expr} {ta tb tc : TD} {pos : Pos}
/-! ### isinstance -/
@[simp] def tyN : D → Option String
  | .non => some "NoneType" | .bl _ => some "bool" | .int _ => some "int" | .str _ => some "str" | .lst _ => some "list" | .tup _ => some "tuple" | _ => none
theorem Rep.tyx {K : PySem.W.Frag} {B : List Addr} {H : Hp} {v : V} {d : D} {n : String} (r : Rep K B H v d) (h : tyN d = some n) : TyX K H v (.type n) := by
  cases r with
  | non => cases h; exact .base .non
  | bl b => cases h; exact .base (.bl b)
  | int i => cases h; exact .base (.int i)
  | str x => cases h; exact .base (.str x)
  | lst hx r => cases h; exact .base (.lst hx.2)
  | tup hx r =>
    cases h
    rcases hx with ⟨_, hx⟩ | ⟨o, its, m, hk, hc, _⟩
    · exact .base (.tup hx)
    · exact .kTuple hk hc
  | _ => cases h
@[simp] def isiN (a : String) (n : String) : Bool := a == n || (a == "bool" && n == "int")
@[simp] def knownT : List String := ["int", "bool", "str", "list", "tuple"]
theorem kit_all : ∀ a ∈ ["NoneType", "bool", "int", "str", "list", "tuple"], ∀ n ∈ knownT, kitB a n = some (isiN a n) := by decide +kernel
theorem tyN_mem {d : D} {n : String} (h : tyN d = some n) : n ∈ ["NoneType", "bool", "int", "str", "list", "tuple"] := by
  cases d <;> simp [tyN] at h <;> subst h <;> decide
/-- isinstance(x, T), isinstance(x, (T, U)) of data -/
def dIsi : RCD := fun xs M Q => match xs with
  | [x, .ty n] => (match tyN x with | some a => n ∈ knownT ∧ Q (.bl (isiN a n)) M | none => False)
  | [x, .tup [.ty n, .ty m]] => (match tyN x with | some a => n ∈ knownT ∧ m ∈ knownT ∧ Q (.bl (isiN a n || isiN a m)) M | none => False)
  | _ => False
@[simp ↓] theorem dIsi_eq : ∀ xs M Q, dIsi xs M Q = (match xs with
  | [x, .ty n] => (match tyN x with | some a => n ∈ knownT ∧ Q (.bl (isiN a n)) M | none => False)
  | [x, .tup [.ty n, .ty m]] => (match tyN x with | some a => n ∈ knownT ∧ m ∈ knownT ∧ Q (.bl (isiN a n || isiN a m)) M | none => False)
  | _ => False) := fun _ _ _ => rfl
theorem CallR.or {f : Value} {r r' : List V → Hp → VK → Prop} (h : CallR X f r) (h' : CallR X f r') : CallR X f (fun xs H Q => r xs H Q ∨ r' xs H Q) := by
  intro pins s σ H xs us Q I rx q
  rcases q with q | q
  · exact h pins s σ H xs us Q I rx q
  · exact h' pins s σ H xs us Q I rx q
theorem k_isi : CallD X (.builtin "isinstance") dIsi := by
  refine ⟨_, CallR.or call_isi (CallR.or call_isiT call_isiK), fun F H M vs xs Q QV mm rp hr k => ?_⟩
  match xs, hr with
  | [x, .ty n], hr =>
    obtain ⟨v, w, rfl, r1, r2⟩ := repA2 rp
    cases r2
    have hr : (match tyN x with | some a => n ∈ knownT ∧ Q (.bl (isiN a n)) M | none => False) := hr
    split at hr
    · rename_i a e
      exact .inl ⟨v, .ty n, .type a, .type n, _, rfl, .ty n, r1.tyx e, kit_ty (kit_all a (tyN_mem e) n hr.1), k.at mm (.bl _) hr.2⟩
    · exact hr.elim
  | [x, .tup [.ty n, .ty m]], hr =>
    obtain ⟨v, w, rfl, r1, r2⟩ := repA2 rp
    have hr : (match tyN x with | some a => n ∈ knownT ∧ m ∈ knownT ∧ Q (.bl (isiN a n || isiN a m)) M | none => False) := hr
    split at hr
    · rename_i a e
      cases r2 with
      | @tup p ws _ hx r2 =>
        obtain ⟨w1, w2, rfl, q1, q2⟩ := repA2 r2
        cases q1
        cases q2
        have h1 := kit_ty (K := X.K) (kit_all a (tyN_mem e) n hr.1)
        have h2 := kit_ty (K := X.K) (kit_all a (tyN_mem e) m hr.2.1)
        have hk : PySem.W.kitAny X.K (.type a) [.type n, .type m] = some (isiN a n || isiN a m) := by
          refine kitAny_cons h1 (fun e1 => ?_) (fun e1 => by rw [e1]; rfl)
          refine kitAny_cons h2 (fun e2 => ?_) (fun e2 => by rw [e2, Bool.or_true])
          rw [e1, e2]
          rfl
        rcases hx with ⟨_, hx⟩ | ⟨o, its, j, hk1, hk2, hk3, _, hv⟩
        · exact .inr (.inl ⟨v, p, _, .type a, [.type n, .type m], _, rfl, hx, .cons (.ty n) (.cons (.ty m) .nil), r1.tyx e, hk, k.at mm (.bl _) hr.2.2⟩)
        · obtain ⟨oc, od, dt, sl⟩ := o
          simp only at hk2 hk3
          subst hk2 hk3
          have e3 : its.toList = [.type n, .type m] := ClsV.all (.cons (.ty n) (.cons (.ty m) .nil)) hv
          have e4 : its = [Value.type n, .type m].toArray := by rw [← e3]
          rw [e4] at hk1
          exact .inr (.inr ⟨v, p, od, [.type n, .type m], j, sl, .type a, _, rfl, hk1, r1.tyx e, hk, k.at mm (.bl _) hr.2.2⟩)
    · exact hr.elim
end

/-! ### names of built-ins -/
abbrev FnP (K : PySem.W.Frag) (x : Str) (st : Stmt) (f : Addr) (fd : FuncData) : Prop := FunD K x x (defArgs st) (defBody st) (defScope st) [] [] f fd
theorem hu65 {A : Around} {k : Nat} (hr : Room k A) : A.units + 65 < cLine := by have := hr.un; omega
theorem bt_int : bootBuiltins "int" = some (.type "int") := by decide +kernel
theorem bt_str : bootBuiltins "str" = some (.type "str") := by decide +kernel
theorem bt_bool : bootBuiltins "bool" = some (.type "bool") := by decide +kernel
theorem bt_list : bootBuiltins "list" = some (.type "list") := by decide +kernel
theorem bt_tuple : bootBuiltins "tuple" = some (.type "tuple") := by decide +kernel
theorem bt_set : bootBuiltins "set" = some (.type "set") := by decide +kernel
theorem bt_dict : bootBuiltins "dict" = some (.type "dict") := by decide +kernel
theorem bt_range : bootBuiltins "range" = some (.type "range") := by decide +kernel
theorem bt_enumerate : bootBuiltins "enumerate" = some (.type "enumerate") := by decide +kernel
theorem bt_zip : bootBuiltins "zip" = some (.type "zip") := by decide +kernel
theorem bf_len : bootBuiltins "len" = some (.builtin "len") := by decide +kernel
theorem bf_abs : bootBuiltins "abs" = some (.builtin "abs") := by decide +kernel
theorem bf_isinstance : bootBuiltins "isinstance" = some (.builtin "isinstance") := by decide +kernel
theorem bf_all : bootBuiltins "all" = some (.builtin "all") := by decide +kernel
theorem bf_any : bootBuiltins "any" = some (.builtin "any") := by decide +kernel
theorem bf_sorted : bootBuiltins "sorted" = some (.builtin "sorted") := by decide +kernel
theorem bf_max : bootBuiltins "max" = some (.builtin "max") := by decide +kernel
theorem bf_min : bootBuiltins "min" = some (.builtin "min") := by decide +kernel
theorem bf_repr : bootBuiltins "repr" = some (.builtin "repr") := by decide +kernel
theorem bf_sum : bootBuiltins "sum" = some (.builtin "sum") := by decide +kernel

/-! ### what the top has left -/
structure Tops (fa : List He.Fa) (fn : List He.DefD) (K : PySem.W.Frag) (mg : Str → Option Value) : Prop where
  says : He.SaysD fa fn K
  glo : ∀ {x : Str}, (He.Fa.glo x).ok K = true → mg x = some (.ref (He.ga K x))
  free : ∀ {x : Str}, (He.Fa.free x).ok K = true → mg x = none
  int : ∀ {x : Str} {i : Int}, (He.Fa.int x i).ok K = true → ∃ t, mg x = some (.int i t)
  str : ∀ {x z : Str}, (He.Fa.str x z).ok K = true → ∃ t, mg x = some (.str z t)
theorem tops_of {fa : List He.Fa} {fn : List He.DefD} {K : PySem.W.Frag} {h : Heap} {mg : Str → Option Value} (KX : K.In h) (G : h.Ns mainGlobals mg) (c : He.SaysD fa fn K) : Tops fa fn K mg :=
  ⟨c, He.glo_ok KX G, He.free_ok KX G, He.int_ok KX G, He.str_ok KX G⟩
/-! ### keywords -/
theorem kbn0 {K : PySem.W.Frag} {x qual : Str} {params : Arguments} {body : List Stmt} {scope : Scope} {kws : List (Str × V)} {f : Addr} {fd : FuncData} {ps ks : List Str} {n : Nat} (F : FunD K x qual params body scope [] kws f fd) (g : {α : Type} → List α → List α → List α)
    (hrel : ∀ {vs zs : List V} {us ws : List Value}, Vals vs us → Vals zs ws → Vals (g vs zs) (g us ws))
    (h : ∀ (kV doc pm : Value) (an : Option Addr) (cdv ct : Value) (us ws : List Value), us.length = n → ws.length = ks.length → bindArgs (PySem.W.fnOf x qual params body scope .none kV doc pm an cdv ct) ⟨us, ks.zip ws⟩ = pure (ps.zip (g us ws))) : KBn K fd ps n ks g g := by
  obtain ⟨oc, od, dV, kV, doc, pm, an, cdv, ct, osl, rfl, lk, hcd, hD, hK⟩ := F.ex
  rcases hD with ⟨_, rfl⟩ | ⟨e, _⟩
  · exact ⟨fun s us ws _ l1 l2 => .of_eq (h kV doc pm an cdv ct us ws l1 l2), fun r1 r2 => hrel r1 r2⟩
  · exact absurd rfl e

/-! ### the draws of a law -/
theorem rmm_open {K : PySem.W.Frag} {F : List Addr} {H : Hp} {M : MM} {g : Addr} (m : RMM K F H M) (h : M.lookup g = some .bag) : ∃ ds, BagL ds ∧ RMM K F H (put M g (.lst ds)) := by
  obtain ⟨ds, vs, b, h1, h2⟩ := m.get h
  refine ⟨ds, b, by rw [keys_put]; exact m.nd, fun a q ha => ?_, fun f hf => by rw [keys_put]; exact m.fd f hf⟩
  unfold ak
  rw [keys_put]
  unfold Dl.put at ha
  obtain ⟨p, hp, e⟩ := List.mem_map.mp ha
  split at e
  · cases e; exact ⟨vs, h1, h2⟩
  · subst e
    exact m.at_ _ _ hp
theorem mem_put {M : MM} {g : Addr} {mo : MO} (h : g ∈ keys M) : (g, mo) ∈ put M g mo := by
  obtain ⟨p, hp, e⟩ := List.mem_map.mp h
  exact List.mem_map.mpr ⟨p, hp, by rw [if_pos e]⟩
theorem nodup_val {M : MM} (nd : (keys M).Nodup) : ∀ {a : Addr} {x y : MO}, (a, x) ∈ M → (a, y) ∈ M → x = y := by
  induction M with
  | nil => intro a x y h; cases h
  | cons p r ih =>
    intro a x y h1 h2
    rw [show keys (p :: r) = p.1 :: keys r from rfl, List.nodup_cons] at nd
    rcases List.mem_cons.mp h1 with e1 | h1
    · rcases List.mem_cons.mp h2 with e2 | h2
      · rw [← e1] at e2; cases e2; rfl
      · exact absurd (List.mem_map.mpr ⟨(a, y), h2, by rw [← e1]⟩) nd.1
    · rcases List.mem_cons.mp h2 with e2 | h2
      · exact absurd (List.mem_map.mpr ⟨(a, x), h1, by rw [← e2]⟩) nd.1
      · exact ih nd.2 h1 h2
theorem rmm_close {K : PySem.W.Frag} {F : List Addr} {H : Hp} {M : MM} {g : Addr} {ds : List D} (m : RMM K F H (put M g (.lst ds))) (b : BagL ds) (h : M.lookup g = some .bag) : RMM K F H M := by
  have nd : (keys M).Nodup := by have := m.nd; rw [keys_put] at this; exact this
  refine ⟨nd, fun a q ha => ?_, fun f hf => by have := m.fd f hf; rw [keys_put] at this; exact this⟩
  have hk : keys (put M g (.lst ds)) = keys M := keys_put ..
  by_cases e : a = g
  · subst e
    have := m.at_ a (.lst ds) (mem_put (lookup_key h))
    unfold ak at this
    rw [hk] at this
    obtain ⟨vs, h1, h2⟩ := this
    have eq : q = .bag := nodup_val nd ha (lookup_mem h)
    subst eq
    exact ⟨ds, vs, b, h1, h2⟩
  · have := m.at_ a q (List.mem_map.mpr ⟨(a, q), ha, by rw [if_neg e]⟩)
    unfold ak at this
    rw [hk] at this
    exact this
/-- a def that changes the bag alone: its body sees the list, its callers do not -/
theorem fnok_bag {P : Program} {w : World} {K : PySem.W.Frag} {mg : Str → Option Value} {base : Heap} {CX : CXT} {k : Nat} {f : Addr} {fd : FuncData} {ps : List Str} {sp sp' : SpD} (h : FnOk P w K mg base CX k f fd ps (spOf K sp))
    (hi : ∀ xs M Z Q, sp' xs M Z Q → ∃ g, M.lookup g = some .bag ∧ ∀ ds, BagL ds → sp xs (put M g (.lst ds)) X0 (fun d M' => ∃ ds', BagL ds' ∧ M' = put M g (.lst ds') ∧ Q d M)) : FnOk P w K mg base CX k f fd ps (spOf K sp') := by
  refine h.imp fun vs H Q E q => ?_
  obtain ⟨F, xs, M, Z, QD, mm, r, q, kq, kx⟩ := q
  obtain ⟨g, hg, q⟩ := hi xs M Z QD q
  obtain ⟨ds, b, mm'⟩ := rmm_open mm hg
  have hk : ∀ ds, keys (put M g (.lst ds)) = keys M := fun ds => keys_put ..
  refine ⟨F, xs, put M g (.lst ds), X0, _, mm', by unfold ak; rw [hk]; exact r, q ds b, fun v H' d M' st m2 rp q2 => ?_, fun C fs vs d H' M' st mm e n r q => q.elim⟩
  obtain ⟨ds', b', rfl, q3⟩ := q2
  rw [hk, hk] at st
  unfold ak at rp
  rw [hk] at rp
  exact kq v H' d M st (rmm_close m2 b' hg) rp q3
/-- the bag as it is made -/
theorem rmm_toBag {K : PySem.W.Frag} {F : List Addr} {H : Hp} {M : MM} {g : Addr} {ds : List D} (m : RMM K F H ((g, .lst ds) :: M)) (b : BagL ds) : RMM K F H ((g, .bag) :: M) := by
  refine ⟨m.nd, fun a q ha => ?_, m.fd⟩
  rcases List.mem_cons.mp ha with e | ha
  · cases e
    obtain ⟨vs, h1, h2⟩ := m.at_ g (.lst ds) List.mem_cons_self
    exact ⟨ds, vs, b, h1, h2⟩
  · exact m.at_ a q (List.mem_cons_of_mem _ ha)
theorem fnok_newBag {P : Program} {w : World} {K : PySem.W.Frag} {mg : Str → Option Value} {base : Heap} {CX : CXT} {k : Nat} {f : Addr} {fd : FuncData} {ps : List Str} {sp sp' : SpD} (h : FnOk P w K mg base CX k f fd ps (spOf K sp))
    (hi : ∀ xs M Z Q, sp' xs M Z Q → sp xs M X0 (fun d M' => ∃ g ds, BagL ds ∧ g ∉ keys M ∧ d = .ref g ∧ M' = (g, .lst ds) :: M ∧ Q (.ref g) ((g, .bag) :: M))) : FnOk P w K mg base CX k f fd ps (spOf K sp') := by
  refine h.imp fun vs H Q E q => ?_
  obtain ⟨F, xs, M, Z, QD, mm, r, q, kq, kx⟩ := q
  refine ⟨F, xs, M, X0, _, mm, r, hi xs M Z QD q, fun v H' d M' st m2 rp q2 => ?_, fun C fs vs d H' M' st mm e n r q => q.elim⟩
  obtain ⟨g, ds, b, hn, rfl, rfl, q3⟩ := q2
  exact kq v H' _ ((g, .bag) :: M) st (rmm_toBag m2 b) rp q3
def spBag : SpD := fun xs M Z Q => ∃ ns : List Int, xs = [.scr ns] ∧ ∀ g, g ∉ keys M → Q (.ref g) ((g, .bag) :: M)
def spPick : SpD := fun xs M Z Q => ∃ (g : Addr) (n : Int), xs = [.ref g, .int n] ∧ M.lookup g = some .bag ∧ 0 < n ∧ n ≤ 2 ^ 60 ∧ ∀ r, 0 ≤ r → r < n → Q (.int r) M
/-- what is drawn from -/
def itemsOf : D → Option (List D)
  | .lst xs => some xs
  | .tup xs => some xs
  | .str z => some (signs z)
  | _ => none
def spOfD : SpD := fun xs M Z Q => ∃ (g : Addr) (d : D) (ys : List D), xs = [.ref g, d] ∧ M.lookup g = some .bag ∧ itemsOf d = some ys ∧ 0 < ys.length ∧ ys.length ≤ 1000 ∧ ∀ y, y ∈ ys → Q y M
end L2.Dl
namespace L2.Dl
open PySem PySem.Spec PyProof.Rows
/-! ### plain data -/
@[simp] theorem okD_int (i : Int) : okD (.int i) = true := rfl
@[simp] theorem okD_str (x : Str) : okD (.str x) = true := rfl
@[simp] theorem okD_bl (b : Bool) : okD (.bl b) = true := rfl
@[simp] theorem okD_non : okD .non = true := rfl
@[simp] theorem eqD_int (i j : Int) : eqD (.int i) (.int j) = decide (i = j) := by
  show (i == j) = _
  rw [Bool.eq_iff_iff]; simp
@[simp] theorem eqD_str (i j : Str) : eqD (.str i) (.str j) = decide (i = j) := by
  show (i == j) = _
  rw [Bool.eq_iff_iff]; simp
@[simp] theorem eqD_bl (i j : Bool) : eqD (.bl i) (.bl j) = decide (i = j) := by
  cases i <;> cases j <;> rfl
theorem cmul_r {i j : Int} (h1 : -18446744073709551616 < j) (h2 : j < 18446744073709551616) : CMul i j := .inr ⟨by omega, by omega⟩
theorem cmul_l {i j : Int} (h1 : -18446744073709551616 < i) (h2 : i < 18446744073709551616) : CMul i j := .inl ⟨by omega, by omega⟩
theorem cdivw {i j : Int} (h1 : 0 < j) (h2 : j ≤ 2 ^ 60) : CDivW i j := wide_div (b := 61) h1 (by omega) (by omega) (by omega)
theorem cpow10 (j : Int) (h0 : 0 ≤ j) (h1 : j ≤ 100) : CPow 10 j := ⟨h0, by omega, by decide⟩
theorem size_le {n : Nat} (h : n ≤ 100000) : n ≤ sizeLine := by rw [sizeLine_eq]; omega
theorem size_lt {n : Nat} (h : n < 100000) : n < sizeLine := by rw [sizeLine_eq]; omega
end L2.Dl

namespace L2.Dl
open PySem PySem.Spec PyProof.Rows
/-! ### sizes, for simp -/
@[simp] theorem cmul_s {i j : Int} (h1 : -18446744073709551616 < j) (h2 : j < 18446744073709551616) : CMul i j = True := eq_true (cmul_r h1 h2)
@[simp] theorem cdiv_s {i j : Int} (h1 : 0 < j) (h2 : j ≤ 1152921504606846976) : CDivW i j = True := eq_true (cdivw h1 h2)
@[simp] theorem cpow_s {j : Int} (h1 : 0 ≤ j) (h2 : j ≤ 100) : CPow 10 j = True := eq_true (cpow10 j h1 h2)
/-! ### comprehensions and loops, read -/
@[simp ↓] theorem forGo_nil (g : Tgt) (tb : TSD) (E : EndsD) (ds : SD) (M : MM) : forGo g tb E [] ds M = E.nx ds M := rfl
@[simp ↓] theorem forGo_cons (g : Tgt) (tb : TSD) (E : EndsD) (x : D) (xs : List D) (ds : SD) (M : MM) : forGo g tb E (x :: xs) ds M = optK (setT g x ds) fun ds2 => tb { E with nx := forGo g tb E xs, ct := forGo g tb E xs, bk := E.nx } ds2 M := rfl
@[simp ↓] theorem lcGo_nil (g : Tgt) (tt : TTD) (te : TD) (ds : SD) (Q : QD) (acc : List D) (M : MM) : lcGo g tt te ds Q [] acc M = Q (.lst acc) M := rfl
@[simp ↓] theorem lcGo_cons (g : Tgt) (tt : TTD) (te : TD) (ds : SD) (Q : QD) (x : D) (xs acc : List D) (M : MM) : lcGo g tt te ds Q (x :: xs) acc M = optK (setT g x ds) fun ds2 => tt ds2 M X0 fun b M3 => if b = true then te ds2 M3 X0 fun y M4 => acc.length < sizeLine ∧ lcGo g tt te ds Q xs (acc ++ [y]) M4 else lcGo g tt te ds Q xs acc M3 := rfl
/-- each item by a function -/
theorem lc_map {g : Tgt} {te : TD} {ds : SD} {Q : QD} (f : D → D) {M : MM} : ∀ (items acc : List D), (∀ x ∈ items, ∃ ds2, setT g x ds = some ds2 ∧ ∀ Q' : QD, Q' (f x) M → te ds2 M X0 Q') → acc.length + items.length ≤ sizeLine → Q (.lst (acc ++ items.map f)) M → lcGo g dYes te ds Q items acc M
  | [], acc, _, _, q => by show Q (.lst acc) M; simpa using q
  | x :: xs, acc, h, hl, q => by
    obtain ⟨ds2, e, h1⟩ := h x List.mem_cons_self
    simp only [List.length_cons] at hl
    show optK (setT g x ds) _
    rw [e, optK_some]
    show (if true = true then _ else _)
    refine iteT (h1 _ ⟨by omega, lc_map f xs _ (fun y hy => h y (List.mem_cons_of_mem _ hy)) (by simp; omega) (by simpa using q)⟩)
/-- items drawn: of each only P is known -/
theorem lc_pred {g : Tgt} {te : TD} {ds : SD} {Q : QD} (P : D → Prop) {M : MM} : ∀ (items acc : List D), (∀ x ∈ items, ∃ ds2, setT g x ds = some ds2 ∧ ∀ Q' : QD, (∀ y, P y → Q' y M) → te ds2 M X0 Q') → acc.length + items.length ≤ sizeLine → (∀ ys : List D, ys.length = items.length → (∀ y ∈ ys, P y) → Q (.lst (acc ++ ys)) M) → lcGo g dYes te ds Q items acc M
  | [], acc, _, _, q => by have := q [] rfl (by simp); show Q (.lst acc) M; simpa using this
  | x :: xs, acc, h, hl, q => by
    obtain ⟨ds2, e, h1⟩ := h x List.mem_cons_self
    simp only [List.length_cons] at hl
    show optK (setT g x ds) _
    rw [e, optK_some]
    show (if true = true then _ else _)
    refine iteT (h1 _ fun y hy => ⟨by omega, lc_pred P xs _ (fun y hy => h y (List.mem_cons_of_mem _ hy)) (by simp; omega) fun ys hl' hp => ?_⟩)
    have := q (y :: ys) (by simp [hl']) (by intro z hz; rcases List.mem_cons.mp hz with e | hz; · subst e; exact hy
                                            · exact hp z hz)
    simpa using this
/-- with an if -/
theorem lc_filter {g : Tgt} {tt : TTD} {te : TD} {ds : SD} {Q : QD} (p : D → Bool) (f : D → D) {M : MM} : ∀ (items acc : List D), (∀ x ∈ items, ∃ ds2, setT g x ds = some ds2 ∧ (∀ Q' : Bool → MM → Prop, Q' (p x) M → tt ds2 M X0 Q') ∧ (p x = true → ∀ Q' : QD, Q' (f x) M → te ds2 M X0 Q')) → acc.length + items.length ≤ sizeLine →
    Q (.lst (acc ++ (items.filter p).map f)) M → lcGo g tt te ds Q items acc M
  | [], acc, _, _, q => by show Q (.lst acc) M; simpa using q
  | x :: xs, acc, h, hl, q => by
    obtain ⟨ds2, e, h1, h2⟩ := h x List.mem_cons_self
    simp only [List.length_cons] at hl
    show optK (setT g x ds) _
    rw [e, optK_some]
    refine h1 _ ?_
    cases hp : p x with
    | true =>
      refine iteT (h2 hp _ ⟨by omega, lc_filter p f xs _ (fun y hy => h y (List.mem_cons_of_mem _ hy)) (by simp; omega) ?_⟩)
      rw [List.filter_cons, if_pos hp] at q
      simpa using q
    | false =>
      refine iteF (lc_filter p f xs _ (fun y hy => h y (List.mem_cons_of_mem _ hy)) (by omega) ?_)
      rw [List.filter_cons, if_neg (by rw [hp]; exact Bool.false_ne_true)] at q
      exact q
/-- a for by what stands between two turns -/
theorem for_inv {g : Tgt} {tb : TSD} {E : EndsD} (Wi : List D → SD → MM → Prop) (hs : ∀ x xs ds M, Wi (x :: xs) ds M → ∃ ds2, setT g x ds = some ds2 ∧ ∀ E' : EndsD, E'.rt = E.rt → E'.bk = E.nx → E'.xc = E.xc → (∀ ds M, Wi xs ds M → E'.nx ds M) → E'.ct = E'.nx → tb E' ds2 M) (hd : ∀ ds M, Wi [] ds M → E.nx ds M) :
    ∀ (items : List D) (ds : SD) (M : MM), Wi items ds M → forGo g tb E items ds M
  | [], ds, M, h => hd ds M h
  | x :: xs, ds, M, h => by
    obtain ⟨ds2, e, h1⟩ := hs x xs ds M h
    show optK (setT g x ds) _
    rw [e]
    exact h1 _ rfl rfl rfl (fun ds M hw => for_inv Wi hs hd xs ds M hw) rfl
theorem ranged_mem {lo : Int} {n : Nat} {x : D} (h : x ∈ ranged lo n) : ∃ i : Nat, i < n ∧ x = .int (lo + i) := by
  unfold ranged at h
  obtain ⟨i, hi, e⟩ := List.mem_map.mp h
  exact ⟨i, List.mem_range.mp hi, e.symm⟩
theorem signs_mem {z : Str} {x : D} (h : x ∈ signs z) : ∃ c, c ∈ z.cps.toList ∧ x = .str ⟨#[c]⟩ := by
  unfold signs at h
  obtain ⟨c, hc, e⟩ := List.mem_map.mp h
  exact ⟨c, hc, e.symm⟩
theorem signs_length (z : Str) : (signs z).length = z.length := by
  unfold signs
  simp
  rfl
theorem lc_signs {g : Tgt} {te : TD} {ds : SD} {Q : QD} {M : MM} {z : Str} (p : Nat → Bool) (h : ∀ c ∈ z.cps.toList, ∃ ds2, setT g (.str ⟨#[c]⟩) ds = some ds2 ∧ ∀ Q' : QD, Q' (.bl (p c)) M → te ds2 M X0 Q') (hl : z.length ≤ 100000) (q : Q (.lst (z.cps.toList.map fun c => .bl (p c))) M) : lcGo g dYes te ds Q (signs z) [] M := by
  refine lc_map (fun d => match d with | .str ⟨⟨[c]⟩⟩ => .bl (p c) | _ => .non) _ _ (fun x hx => ?_) (by simp [signs_length]; exact size_le hl) ?_
  · obtain ⟨c, hc, rfl⟩ := signs_mem hx
    exact h c hc
  · unfold signs
    rw [List.map_map]
    exact q
/-! ### the draw of one thing -/
theorem itemsOf_ix {d : D} {ys : List D} {M : MM} {Q : QD} {r : Int} (h : itemsOf d = some ys) (hl : ys.length ≤ 1000) (h0 : 0 ≤ r) (h1 : r < ys.length) (q : ∀ y ∈ ys, Q y M) : dIx d (.int r) M Q := by
  have ix : ∀ {α : Type} (l : List α), r < l.length → ∃ x, L2.atI l r = some x ∧ x ∈ l := fun l hr => by
    have hlt : r.toNat < l.length := by omega
    refine ⟨l[r.toNat], ?_, List.getElem_mem hlt⟩
    unfold L2.atI ixN
    rw [if_pos h0, if_pos hr]
    simp [hlt]
  cases d with
  | lst xs =>
    cases h
    obtain ⟨x, e, hx⟩ := ix ys h1
    show optK (L2.atI ys r) _
    rw [e]
    exact q x hx
  | tup xs =>
    cases h
    obtain ⟨x, e, hx⟩ := ix ys h1
    show optK (L2.atI ys r) _
    rw [e]
    exact q x hx
  | str z =>
    cases h
    rw [signs_length] at h1 hl
    have hz : z.cps.toList.length = z.length := by simp; rfl
    obtain ⟨x, e, hx⟩ := ix z.cps.toList (by rw [hz]; exact h1)
    refine ⟨size_le (by omega), ?_⟩
    rw [e]
    exact q _ (List.mem_map.mpr ⟨x, hx, rfl⟩)
  | _ => cases h
theorem itemsOf_len {d : D} {ys : List D} {M : MM} {Q : QD} (h : itemsOf d = some ys) (hl : ys.length ≤ 1000) (q : Q (.int ys.length) M) : dLen [d] M Q := by
  cases d with
  | lst xs => cases h; exact q
  | tup xs => cases h; exact q
  | str z => cases h; rw [signs_length] at q hl; exact ⟨size_le (by omega), q⟩
  | _ => cases h
/-! ### like: plain data, equal in all -/
def plainD : Nat → D → Bool
  | _, .non => true | _, .bl _ => true | _, .int _ => true | _, .str _ => true
  | n + 1, .lst xs => decide (xs.length ≤ 100000) && xs.all (plainD n)
  | n + 1, .tup xs => decide (xs.length ≤ 100000) && xs.all (plainD n)
  | _, _ => false
theorem plainD_ok : ∀ {n : Nat} {d : D}, plainD n d = true → ∃ p, toPy d = some p ∧ p.depth ≤ n + 1 := by
  intro n
  induction n with
  | zero =>
    intro d h
    cases d with
    | non => exact ⟨_, rfl, by decide⟩
    | bl b => exact ⟨_, rfl, by show 0 ≤ 1; decide⟩
    | int b => exact ⟨_, rfl, by show 0 ≤ 1; decide⟩
    | str b => exact ⟨_, rfl, by show 0 ≤ 1; decide⟩
    | _ => cases h
  | succ n ih =>
    have all : ∀ xs : List D, xs.all (plainD n) = true → ∃ ps, toPyL xs = some ps ∧ PyData.depthAll ps ≤ n + 1 := by
      intro xs
      induction xs with
      | nil => intro _; exact ⟨[], rfl, by show 0 ≤ n + 1; omega⟩
      | cons x r ihx =>
        intro h
        rw [List.all_cons, Bool.and_eq_true] at h
        obtain ⟨p, e1, h1⟩ := ih h.1
        obtain ⟨ps, e2, h2⟩ := ihx h.2
        refine ⟨p :: ps, by unfold toPyL; rw [e1, e2], ?_⟩
        show max p.depth (PyData.depthAll ps) ≤ n + 1
        omega
    intro d h
    cases d with
    | non => exact ⟨_, rfl, by show 0 ≤ n + 1 + 1; omega⟩
    | bl b => exact ⟨_, rfl, by show 0 ≤ n + 1 + 1; omega⟩
    | int b => exact ⟨_, rfl, by show 0 ≤ n + 1 + 1; omega⟩
    | str b => exact ⟨_, rfl, by show 0 ≤ n + 1 + 1; omega⟩
    | lst xs =>
      have h := (Bool.and_eq_true_iff.mp (show (decide (xs.length ≤ 100000) && xs.all (plainD n)) = true from h)).2
      obtain ⟨ps, e, hd⟩ := all xs h
      exact ⟨.list ps, by simp only [toPy, e]; rfl, by show PyData.depthAll ps + 1 ≤ n + 1 + 1; omega⟩
    | tup xs =>
      have h := (Bool.and_eq_true_iff.mp (show (decide (xs.length ≤ 100000) && xs.all (plainD n)) = true from h)).2
      obtain ⟨ps, e, hd⟩ := all xs h
      exact ⟨.tuple ps, by simp only [toPy, e]; rfl, by show PyData.depthAll ps + 1 ≤ n + 1 + 1; omega⟩
    | _ => cases h
theorem zipd_self {x : D} : ∀ {xs : List D}, x ∈ zipd xs xs → ∃ d ∈ xs, x = .tup [d, d]
  | [], h => by cases h
  | y :: r, h => by
    rcases List.mem_cons.mp (show x ∈ .tup [y, y] :: zipd r r from h) with e | h
    · exact ⟨y, List.mem_cons_self, e⟩
    · obtain ⟨d, hd, e⟩ := zipd_self h
      exact ⟨d, List.mem_cons_of_mem _ hd, e⟩
@[simp] theorem boolsD_of {α : Type} (f : α → Bool) : ∀ l : List α, boolsD (l.map fun x => .bl (f x)) = some (l.map f)
  | [] => rfl
  | x :: r => by
    show (boolsD (r.map fun x => .bl (f x))).map (f x :: ·) = _
    rw [boolsD_of f r]
    rfl
def likeSp (n : Nat) : SpD := fun xs M Z Q => ∃ d, xs = [d, d] ∧ plainD n d = true ∧ Q (.bl true) M
def likeSp' : Nat → SpD
  | 0 => fun _ _ _ _ => False
  | n + 1 => likeSp n
end L2.Dl

namespace L2.Dl
open PySem PySem.Spec PyProof.Rows
/-! ### texts -/
theorem len_app (x y : Str) : (x ++ y).length = x.length + y.length := by
  show (x.cps ++ y.cps).size = x.cps.size + y.cps.size
  simp
theorem len_cut (z : Str) (lo hi : Option Int) : (cutS z lo hi).length ≤ z.length := by
  have e : z.length = z.cps.toList.length := by simp; rfl
  unfold cutS
  show ((((z.cps.toList.drop _).take _).toArray).size) ≤ _
  rw [e]
  simp
  omega
theorem join_signs : ∀ {ys : List D}, (∀ y ∈ ys, ∃ c, y = .str ⟨#[c]⟩) → ∃ ss, strsD ys = some ss ∧ ss.length = ys.length ∧ (ss.map (·.length)).sum = ys.length ∧ (Str.join Str.empty ss).length = ys.length
  | [], _ => ⟨[], rfl, rfl, rfl, rfl⟩
  | y :: r, h => by
    obtain ⟨c, rfl⟩ := h y List.mem_cons_self
    obtain ⟨ss, e, h1, h2, h3⟩ := join_signs (ys := r) fun z hz => h z (List.mem_cons_of_mem _ hz)
    refine ⟨⟨#[c]⟩ :: ss, by unfold strsD; rw [e]; rfl, by simp [h1], ?_, ?_⟩
    · rw [List.map_cons, List.sum_cons, h2]
      show 1 + r.length = r.length + 1
      omega
    · cases ss with
      | nil =>
        cases r with
        | nil => rfl
        | cons a b => simp at h1
      | cons a b =>
        show (⟨#[c]⟩ ++ Str.empty ++ Str.join Str.empty (a :: b)).length = _
        rw [len_app, len_app, h3]
        show 1 + 0 + r.length = r.length + 1
        omega
end L2.Dl

namespace L2.Dl
open PySem PySem.Spec PyProof.Rows
/-! ### a law's end -/
def spLaw : SpD := fun xs M Z Q => ∃ ns : List Int, xs = [.scr ns] ∧ M = [] ∧ ∀ M, Q (.bl true) M
theorem law_sp {K : PySem.W.Frag} {H : Hp} {a : Addr} {ns : List Int} (h : SqL K H a (ns.map V.int)) : spOf K spLaw [.ref a] H (fun v _ => v = .bl true) (fun _ _ _ => False) := by
  refine ⟨[], [.scr ns], [], X0, fun d _ => d = .bl true, ⟨List.nodup_nil, fun _ _ h => (nomatch h), fun _ h => (nomatch h)⟩, .cons (.scr ?_) .nil, ⟨ns, rfl, rfl, fun _ => rfl⟩, fun v H' d M' _ _ rp e => ?_, fun _ _ _ _ _ _ _ _ _ _ _ z => z.elim⟩
  · rcases h with h | h
    · exact .inl ⟨fun z => (nomatch z), h⟩
    · exact .inr h
  · subst e
    cases rp
    rfl
theorem cx_false {P : Program} {w : World} (H : Hp) (s : Shared) (e : Value) (s' : Shared) (h : L2.CX P w [] H s (fun _ _ _ => False) e s') : False := by
  obtain ⟨_, _, _, _, _, _, _, _, _, _, _, _, z⟩ := h
  exact z
theorem fn_cx {P : Program} {w : World} {K : PySem.W.Frag} {mg : Str → Option Value} {base : Heap} {k : Nat} {f : Addr} {fd : FuncData} {ps : List Str} {sp : Sp} (h : FnOk P w K mg base (L2.CX P w) k f fd ps sp) : FnOk P w K mg base (fun outer H s E e s' => ∃ w, L2.CX P w outer H s E e s') k f fd ps sp :=
  ⟨h.len, fun A outer s H args us vs Q E hr e0 hb r hs => codeAny_mono (h.run A outer s H args us vs Q E hr e0 hb r hs) fun res s' q => by
    cases res with
    | error e => exact ⟨w, q⟩
    | ok fl => cases fl <;> exact q⟩
/-! ### the hook: what the facts need of the top, without looking twice -/
def adsV (g : Addr → Option Obj) (v : Value) : List Addr := He.refV v
def adsF (g : Addr → Option Obj) (a : Addr) : List Addr := match g a with
  | some o => He.refsD o
  | none => []
/-- the globals, what they are, what is in their classes, code, defaults -/
def asX (g : Addr → Option Obj) : List Addr :=
  let l1 := adsF g mainGlobals
  let l2 := l1.flatMap (adsF g)
  let l3 := l2.flatMap (adsF g)
  mainGlobals :: (l1 ++ (l2 ++ l3))
end L2.Dl

namespace L2.Dl
open PySem PySem.Spec PyProof.Rows
/-! ### objects -/
def clsOf : D → MM → Option (Str × List (Str × D))
  | .obj C fs, _ => some (C, fs)
  | .ref a, M => match M.lookup a with | some (.obj C fs) => some (C, fs) | _ => none
  | _, _ => none
theorem clsOf_at {K : PySem.W.Frag} {F : List Addr} {H : Hp} {M : MM} {v : V} {d : D} {C : Str} {fs : List (Str × D)} (mm : RMM K F H M) (r : Rep K (ak F M) H v d) (h : clsOf d M = some (C, fs)) : ∃ a dx vs, v = .ref a ∧ H a = some (.ins (He.ga K C) dx vs) ∧ RepF K (ak F M) H Str vs fs := by
  cases r with
  | obj h1 h2 r => cases h; exact ⟨_, _, _, rfl, h2, r⟩
  | ref a =>
    have h : (match M.lookup a with | some (.obj C fs) => some (C, fs) | _ => none) = some (C, fs) := h
    cases e : M.lookup a with
    | none => rw [e] at h; cases h
    | some mo =>
      rw [e] at h
      cases mo with
      | obj C' fs' =>
        cases h
        obtain ⟨dx, vs, h1, h2⟩ := mm.get e
        exact ⟨a, dx, vs, rfl, h1, h2⟩
      | _ => cases h
  | _ => cases h
/-- fields of the classes Cs by the name f -/
def FldOk (K : PySem.W.Frag) (Cs : List Str) (f : Str) : Prop := ∀ C ∈ Cs, Cls K (He.ga K C) ∧ NoAttr K (He.ga K C) f
section
variable {X : Cx} {e o : Expr} {te to tv : TD} {pos apos : Pos} {f : Str} {Cs : List Str}
def dFld (Cs : List Str) (f : Str) (te : TD) : TD := fun ds M Z Q => te ds M Z fun d M1 => optK (clsOf d M1) fun c => c.1 ∈ Cs ∧ optK (c.2.lookup f) fun v => Q v M1
@[simp ↓] theorem dFld_eq (Cs : List Str) (f : Str) (te : TD) : ∀ ds M Z Q, dFld Cs f te ds M Z Q = (te ds M Z fun d M1 => optK (clsOf d M1) fun c => c.1 ∈ Cs ∧ optK (c.2.lookup f) fun v => Q v M1) := fun _ _ _ _ => rfl
theorem d_fld (hC : FldOk X.K Cs f) (he : PD X e te) (hb : attributeBase e f X.env (eval e X.env) = eval e X.env := by rfl) : PD X (.Attribute e f pos) (dFld Cs f te) := by
  refine PD.of (fun W tk => pe_fld (he.pe tk) hb) fun W F σ H ds M Z Q hs ht => ?_
  refine ⟨F, ds, M, _, _, hs, ht, fun v H1 d M1 st mm rp q => ?_⟩
  unfold optK at q
  split at q
  · rename_i c e1
    obtain ⟨C, fs⟩ := c
    obtain ⟨hm, q⟩ := q
    split at q
    · rename_i w e2
      obtain ⟨a, dx, vs, rfl, h1, h2⟩ := clsOf_at mm rp e1
      obtain ⟨u, h3, h4⟩ := h2.look e2
      exact ⟨a, _, dx, vs, u, rfl, h1, (hC C hm).1, (hC C hm).2, h3, (KQ.eq.on st).at mm h4 q⟩
    · exact q.elim
  · exact q.elim
def putD (f : Str) (v : D) : List (Str × D) → List (Str × D)
  | [] => [(f, v)]
  | (g, x) :: r => if g = f then (g, v) :: r else (g, x) :: putD f v r
theorem RepF.put {K : PySem.W.Frag} {B : List Addr} {H : Hp} {f : Str} {v : V} {d : D} (h : Rep K B H v d) : ∀ {vs : List (Str × V)} {fs : List (Str × D)}, RepF K B H Str vs fs → RepF K B H Str (putF f v vs) (putD f d fs)
  | _, _, .nil => .cons h .nil
  | _, _, @RepF.cons _ _ _ _ g w vs e ds q r => by
    unfold putF putD
    by_cases hg : g = f
    · rw [if_pos hg, if_pos hg]; exact .cons h r
    · rw [if_neg hg, if_neg hg]; exact .cons q (RepF.put h r)
def objK (o : Option MO) (k : Str → List (Str × D) → Prop) : Prop := match o with | some (.obj C fs) => k C fs | _ => False
@[simp] theorem objK_some (C : Str) (fs : List (Str × D)) (k : Str → List (Str × D) → Prop) : objK (some (.obj C fs)) k = k C fs := rfl
/-- o.f = e, o an object that may change -/
def dFldS (Cs : List Str) (f : Str) (to tv : TD) : TSD := fun E ds M => tv ds M (E.xd ds) fun d M1 => to ds M1 (E.xd ds) fun o M2 => match o with
  | .ref a => objK (M2.lookup a) fun C fs => C ∈ Cs ∧ fs.length < 1000 ∧ letK (put M2 a (.obj C (putD f d fs))) fun M' => E.nx ds M'
  | _ => False
@[simp ↓] theorem dFldS_eq (Cs : List Str) (f : Str) (to tv : TD) : ∀ E ds M, dFldS Cs f to tv E ds M = (tv ds M (E.xd ds) fun d M1 => to ds M1 (E.xd ds) fun o M2 => match o with
  | .ref a => objK (M2.lookup a) fun C fs => C ∈ Cs ∧ fs.length < 1000 ∧ letK (put M2 a (.obj C (putD f d fs))) fun M' => E.nx ds M'
  | _ => False) := fun _ _ _ => rfl
theorem s_fld {pos' : Pos} (hC : FldOk X.K Cs f) (hv : PD X e tv) (ho : PD X o to) (hs : swapsWith e (some (.Attribute o f pos')) pos.line X.env = pure false := by rfl) : PSD X (.Assign [.Attribute o f pos'] e pos) (dFldS Cs f to tv) := by
  refine PSD.of (fun W tk => ps_fld (ho.pe tk) (hv.pe tk) hs) fun W F σ H ds M E hst kx ht => ?_
  refine ⟨F, ds, M, _, _, hst.ex kx, ht, fun v H1 d M1 st mm rp q => ?_⟩
  refine ⟨F, ds, M1, _, _, (hst.ex kx).to st mm, q, fun ov H2 od M2 st2 mm2 rp2 q2 => ?_⟩
  cases od with
  | ref a =>
    cases rp2
    have q2 : objK (M2.lookup a) (fun C fs => C ∈ Cs ∧ fs.length < 1000 ∧ E.nx ds (put M2 a (.obj C (putD f d fs)))) := q2
    unfold objK at q2
    split at q2
    · rename_i C fs e1
      obtain ⟨hm, hl, q2⟩ := q2
      obtain ⟨dx, vs, h1, h2⟩ := mm2.get e1
      have hk := lookup_key e1
      have s12 := st.trans st2
      have hr : RepO X.K (ak F M2) (upd H2 a (.ins (He.ga X.K C) dx (putF f v vs))) a (.obj C (putD f d fs)) := ⟨dx, _, upd_same, (RepF.put (rp.step st2.fix) h2).step (stp_put hk).fix⟩
      refine ⟨a, _, dx, vs, rfl, h1, (hC C hm).1, (hC C hm).2, by rw [h2.len]; exact hl, ds, put M2 a (.obj C (putD f d fs)), ?_, ⟨mm2.put hk hr, ?_⟩, q2⟩
      · rw [keys_put]; exact s12.trans (stp_put hk)
      · unfold ak; rw [keys_put]; exact (hst.to s12 mm2).sl.step (stp_put hk).fix
    · exact q2.elim
  | _ => exact (show False from q2).elim
/-! ### methods -/
variable {es : List Expr} {t tk : TAD} {m C : Str} {g : Addr} {sp : SpS} {ks : List Str} {kws : List Keyword}
def dMeth (C m : Str) (sp : SpS) (to : TD) (t tk : TAD) : TD := fun ds M Z Q => to ds M Z fun o M1 => optK (clsOf o M1) fun c => c.1 = C ∧ c.2.lookup m = none ∧ t ds M1 Z fun xs M2 => tk ds M2 Z fun ys M3 => ask sp (o :: xs) ys M3 Z Q
@[simp ↓] theorem dMeth_eq (C m : Str) (sp : SpS) (to : TD) (t tk : TAD) : ∀ ds M Z Q, dMeth C m sp to t tk ds M Z Q = (to ds M Z fun o M1 => optK (clsOf o M1) fun c => c.1 = C ∧ c.2.lookup m = none ∧ t ds M1 Z fun xs M2 => tk ds M2 Z fun ys M3 => ask sp (o :: xs) ys M3 Z Q) := fun _ _ _ _ => rfl
theorem d_meth {pl : Sem Bool} (hc : Cls X.K (He.ga X.K C)) (hm : Meth X.K (He.ga X.K C) m g) (Cl : CalS X g [] sp) (ho : PD X o to) (ha : PAD X (e :: es) t) (hpl : noStars (e :: es) = true := by rfl)
    (hev : eval (.Call (.Attribute o m apos) (e :: es) [] pos) X.env = (do
      let ov ← eval o X.env
      standAt apos.atName
      let (f, first) ← holding [ov] (getMethod ov m pl)
      callWith pos f first (backTo pos (starEach (e :: es) X.env)) (backToKw pos (keywordEach [] X.env))) := by rfl) : PD X (.Call (.Attribute o m apos) (e :: es) [] pos) (dMeth C m sp to t dNil) := by
  refine ⟨fun W tks F pins s σ H ds M Z Q I hs ht => ?_⟩
  have he : notStar e = true := (Bool.and_eq_true_iff.mp (show (notStar e && es.all notStar) = true from hpl)).1
  have hes : noStars es = true := (Bool.and_eq_true_iff.mp (show (notStar e && es.all notStar) = true from hpl)).2
  refine PySem.W.methodCall_KW (pl := pl) (thn (ho.run W tks F pins s σ H ds M Z _ I hs ht) fun u s1 ⟨x, H1, d, M1, I1, rx, st, mm, rp, q⟩ => ?_) hev
  unfold optK at q
  split at q
  · rename_i c e1
    obtain ⟨C', fs⟩ := c
    obtain ⟨hC, hl, q⟩ := q
    have hC : C' = C := hC
    subst hC
    obtain ⟨a, dx, vs, rfl, h1, h2⟩ := clsOf_at mm rp e1
    obtain rfl : u = Value.ref a := rx
    refine getmeth_ok I1 h1 hc hm (h2.lookN hl) ?_
    refine PySem.W.callWith_K (first := [.ref a]) (h₀ := X.base) I.ok.mod.kin hm.kp (thn (ha.run W tks pos F pins s1 σ H1 ds M1 Z _ I1 (hs.to st mm) q) fun us s2 ⟨vs2, H2, xs, M2, I2, r, st2, mm2, rp2, q2⟩ => ⟨I2.kIn, ?_⟩) (star_cons he) (star_any hes)
    have s12 := st.trans st2
    exact thn (Cl W tks pins σ H2 s2 F M2 Z (.ref a :: us) [] (.ref a :: vs2) [] (d :: xs) [] Q I2 mm2 (hs.kx.on s12) (.cons rfl r) .nil rfl (.cons (rp.step st2.fix) rp2) .nil q2) fun u s' h => EPD.up s12 h
  · exact q.elim
theorem d_meth0 {pl : Sem Bool} (hc : Cls X.K (He.ga X.K C)) (hm : Meth X.K (He.ga X.K C) m g) (Cl : CalS X g [] sp) (ho : PD X o to)
    (hev : eval (.Call (.Attribute o m apos) [] [] pos) X.env = (do
      let ov ← eval o X.env
      standAt apos.atName
      let (f, first) ← holding [ov] (getMethod ov m pl)
      callWith pos f first (backTo pos (starEach [] X.env)) (backToKw pos (keywordEach [] X.env))) := by rfl) : PD X (.Call (.Attribute o m apos) [] [] pos) (dMeth C m sp to dNil dNil) := by
  refine ⟨fun W tks F pins s σ H ds M Z Q I hs ht => ?_⟩
  refine PySem.W.methodCall_KW (pl := pl) (thn (ho.run W tks F pins s σ H ds M Z _ I hs ht) fun u s1 ⟨x, H1, d, M1, I1, rx, st, mm, rp, q⟩ => ?_) hev
  unfold optK at q
  split at q
  · rename_i c e1
    obtain ⟨C', fs⟩ := c
    obtain ⟨hC, hl, q⟩ := q
    have hC : C' = C := hC
    subst hC
    obtain ⟨a, dx, vs, rfl, h1, h2⟩ := clsOf_at mm rp e1
    obtain rfl : u = Value.ref a := rx
    refine getmeth_ok I1 h1 hc hm (h2.lookN hl) ?_
    refine PySem.W.callWith_K0 (first := [.ref a]) I1.kIn hm.kp ?_
    exact thn (Cl W tks pins σ H1 s1 F M1 Z [.ref a] [] [.ref a] [] [d] [] Q I1 mm (hs.kx.on st) (.cons rfl .nil) .nil rfl (.cons rp .nil) .nil q) fun u s' h => EPD.up st h
  · exact q.elim
/-! ### properties -/
def dProp (C : Str) (sp : SpS) (te : TD) : TD := fun ds M Z Q => te ds M Z fun o M1 => optK (clsOf o M1) fun c => c.1 = C ∧ ask sp [o] [] M1 X0 Q
@[simp ↓] theorem dProp_eq (C : Str) (sp : SpS) (te : TD) : ∀ ds M Z Q, dProp C sp te ds M Z Q = (te ds M Z fun o M1 => optK (clsOf o M1) fun c => c.1 = C ∧ ask sp [o] [] M1 X0 Q) := fun _ _ _ _ => rfl
theorem d_prop {k : Nat} {p : Addr} (hc : Cls X.K (He.ga X.K C)) (hp : PropOf X.K (He.ga X.K C) f p g) (Fn : FnS X.prog X.w X.K X.mg X.base k g [] sp) (hr : Room (k + 1) X.A) (he : PD X e te) (hb : attributeBase e f X.env (eval e X.env) = eval e X.env := by rfl) : PD X (.Attribute e f pos) (dProp C sp te) := by
  refine ⟨fun W tks F pins s σ H ds M Z Q I hs ht => ?_⟩
  refine attr_of hb (thn (he.run W tks F pins s σ H ds M Z _ I hs ht) fun u s1 ⟨x, H1, d, M1, I1, rx, st, mm, rp, q⟩ => ?_)
  unfold optK at q
  split at q
  · rename_i c e1
    obtain ⟨C', fs⟩ := c
    obtain ⟨hC, q⟩ := q
    have hC : C' = C := hC
    subst hC
    obtain ⟨a, dx, vs, rfl, h1, h2⟩ := clsOf_at mm rp e1
    obtain rfl : u = Value.ref a := rx
    obtain ⟨mA, O, _, _, _, _⟩ := ins_get I1.hok h1
    obtain ⟨od, J, _⟩ := O.look
    obtain ⟨rest, hrec⟩ := hp.rec_
    have I2 := I1.tok (s1.toks + 1)
    have hcs : (PySem.W.clsIn X.K (He.ga X.K C')).isSome = true := by
      obtain ⟨cd, hcd, _⟩ := PySem.W.any_some hc.hd
      rw [hcd]
      rfl
    refine PySem.W.get_bind I1.kIn J (PySem.W.plainGet_of (hc.get f)).1 (PySem.W.findObj_data hcs hp.at_ hp.get hp.tak) (PySem.W.plainGet_of (hc.get f)).2 (wpAny_call (PySem.W.prop_get (s := { s1 with toks := s1.toks + 1 }) I1.kIn hrec ?_))
    refine codeAny_mono (Fn X.A.in1 X.stack { s1 with toks := s1.toks + 1 } H1 [.ref a] [] [.ref a] [] F [d] [] M1 X0 Q (EQ X.K F H1 M1 Q) (fun _ _ _ => False) hr.in1 I2.env0.in1 (.cons rfl .nil) .nil rfl mm (.cons rp .nil) .nil q KQ.eq fun C fs vs d H' M' st' mm' e n r q => q.elim) fun r s' hq => ?_
    cases r with
    | error er =>
      obtain ⟨_, _, _, _, _, _, _, _, _, _, _, _, z⟩ := hq
      exact z.elim
    | ok fl =>
      cases fl with
      | ret u =>
        obtain ⟨v, H', I3, rv, d', M', st', mm', rp', q3⟩ := I2.after hq
        show wpAny _ _ (handedOut u) _ _ _
        rw [PySem.W.handedOut_of (handed_of rv)]
        exact wpAny_pure ⟨v, H', d', M', I3, rv, st.trans st', mm', rp', q3⟩
      | next => exact False.elim hq
      | brk => exact False.elim hq
      | cont => exact False.elim hq
  · exact q.elim
end
end L2.Dl

namespace L2.Dl
open PySem PySem.Spec PyProof.Rows
/-! ### errors: classes over ValueError, LookupError, IndexError -/
structure BaseX (B newId i : String) (bmB : List Value) : Prop where
  eb : ExcBaseFacts B newId i bmB
  kx : PySem.W.KxsFacts B i
  sf : StoreFacts B bmB "object.__setattr__" "object"
theorem bx_V : BaseX "ValueError" "ValueError.__new__" "ValueError.__init__" [.type "ValueError", .type "Exception", .type "BaseException", .type "object"] := ⟨F.excBase_ValueError, PySem.W.kxs_ValueError, F.store_ValueError⟩
theorem bx_L : BaseX "LookupError" "LookupError.__new__" "LookupError.__init__" [.type "LookupError", .type "Exception", .type "BaseException", .type "object"] := ⟨F.excBase_LookupError, PySem.W.kxs_LookupError, F.store_LookupError⟩
theorem bx_I : BaseX "IndexError" "IndexError.__new__" "IndexError.__init__" [.type "IndexError", .type "LookupError", .type "Exception", .type "BaseException", .type "object"] := ⟨F.excBase_IndexError, PySem.W.kxs_IndexError, F.store_IndexError⟩
/-- an error as it is made: no dict | a dict -/
abbrev eO (C t : Addr) (d : Option Addr) : Obj := { cls := .ref C, dict := d, data := .fields #[.ref t, .none, .none, .none, .bool false, .none] }
section
variable {prog : Program} {w : World} {M : Model} {A : Around} {E : Value → Shared → Prop} {R : Result → Shared → Prop} {h : Heap} {g : Array GenState} {d : Drawn} {t : Nat} {os : OsState}
variable {nm q : Str} {C N : Addr} {bs bm bmB : List Value} {hdct : Bool} {sn : List Str} {sub : List Value} {ab : Bool} {col : Option Bool} {dd : Option Addr} {k0 k1 k2 k3 k5 : Option Value} {B newId initId : String}
/-! #### made by values and keywords -/
theorem chk_newK (F : ExcBaseFacts B newId initId bmB) (hT : ∀ X : String, bm.contains (.type X) = bmB.contains (.type X)) {rest : List Value} {kw : List (Str × Value)} {Q : Unit → Shared → Prop}
    (hC : h.get? C = some (excClassObj nm q C N bs bm hdct sn sub ab col dd k0 k1 k2 k3 k5 newId)) (z : Q () ⟨h, g, d, t, os⟩) : wpAny M A (checkBuiltinCall newId ⟨.ref C :: rest, kw⟩) Q E ⟨h, g, d, t, os⟩ := by
  have h1 : (Value.ref C :: bm).contains (.type B) = true := by rw [List.contains_cons, hT, F.hasB, Bool.or_true]
  have h2 := F.noStar
  simp only [checkBuiltinCall, F.newKind, F.newSplit, F.newRow]
  repeat (first | refine wpAny_staticBase_exc hC ?_ | refine wpAny_madeBy_exc hC ?_ | refine wpAny_loadPart_at hC ?_ | (refine wpAny_isSubtype_exc hC ?_; rw [h1]) | wp_step | simp only [bne_self_eq_false, Bool.false_eq_true, if_false])
  exact z
theorem new_K (F : ExcBaseFacts B newId initId bmB) (hT : ∀ X : String, bm.contains (.type X) = bmB.contains (.type X)) {rest : List Value} {kw : List (Str × Value)}
    (hC : h.get? C = some (excClassObj nm q C N bs bm hdct sn sub ab col dd k0 k1 k2 k3 k5 newId))
    (z : R (.ok (.ret (.ref (h.objs.size + 1)))) ⟨(h.push (PySem.W.kdv_tup rest)).push (eO C h.objs.size none), g, d, t, os⟩) (hr : rest.length ≤ sizeLine) :
    codeAny (model prog w) A (.builtin newId ⟨.ref C :: rest, kw⟩) R ⟨h, g, d, t, os⟩ := by
  have e0 := F.ends
  have h1 : (Value.ref C :: bm).contains (.type B) = true := by rw [List.contains_cons, hT, F.hasB, Bool.or_true]
  have h2 : (Value.ref C :: bm).contains (.type "AttributeError") = false := by rw [List.contains_cons, hT, F.noAttr]; rfl
  have h3 : (Value.ref C :: bm).contains (.type "NameError") = false := by rw [List.contains_cons, hT, F.noName]; rfl
  refine codeAny_builtinAt F.entry ?_
  unfold Builtin.«BaseException.__new__»
  refine _root_.PySem.wpAt_bind ?_
  show _root_.PySem.wpAt _ _ _ (stack >>= _) _ _ _
  refine _root_.PySem.wpAt_bind (_root_.PySem.wpAt_stack fun p0 lower => _root_.PySem.wpAt_of_wpAny ?_)
  wp_walk
  refine _root_.PySem.wpAt_of_wpAny ?_
  rw [F.owner]
  repeat (first | with_reducible refine wpAny_loadPart_at hC ?_ | with_reducible refine wpAny_madeHere_exc F.canon hC ?_ | (with_reducible refine wpAny_isSubtype_exc hC ?_; first | rw [h1] | rw [h2] | rw [h3]) | wp_step)
  show R _ _
  rw [Heap.size_push]
  exact z
theorem type_callK (F : ExcBaseFacts B newId initId bmB) (hT : ∀ X : String, bm.contains (.type X) = bmB.contains (.type X)) {rest : List Value} {kw : List (Str × Value)} {fI : Addr} {Q : Fin → Shared → Prop}
    (hC : h.get? C = some (excClassObj nm q C N bs bm hdct sn sub ab col dd k0 k1 k2 k3 k5 newId))
    (hi : PySem.W.Looks (model prog w) h (typeLookup (.ref C) "__init__") (some (.ref fI))) (hb : ∀ self, PySem.W.Looks (model prog w) h (bindSpecial (.ref fI) self) (.ref fI, [self])) (hr : rest.length ≤ sizeLine)
    (hq : codeAny (model prog w) A (.call (.ref fI) ⟨.ref (h.objs.size + 1) :: rest, kw⟩)
      (fun r s' => match r with | .ok (.ret v) => v = .none ∧ Q (.done (.ret (.ref (h.objs.size + 1)))) s' | .ok _ => False | .error e => E e s')
      ⟨(h.push (PySem.W.kdv_tup rest)).push (eO C h.objs.size none), g, d, t, os⟩) :
    wpAny (model prog w) A (Builtin.«type.__call__» ⟨.ref C :: rest, kw⟩) Q E ⟨h, g, d, t, os⟩ := by
  repeat (first | with_reducible refine wpAny_madeBy_exc hC ?_ | with_reducible refine wpAny_loadPart_at hC ?_ | wp_step)
  refine codeAny_call_builtin_code (Code.quiet_builtin _ F.quiet) (chk_newK F hT hC ?_)
  refine new_K F hT hC ?_ hr
  show wpAny _ _ _ _ _ _
  have kp : ∀ b o, h.get? b = some o → ((h.push (PySem.W.kdv_tup rest)).push (eO C h.objs.size none)).get? b = some o := fun b o e => Heap.get?_push_of_some _ (Heap.get?_push_of_some _ e)
  have hC1 := kp _ _ hC
  have hg : ((h.push (PySem.W.kdv_tup rest)).push (eO C h.objs.size none)).get? (h.objs.size + 1) = some (eO C h.objs.size none) := by heap_get
  have hcC : (Value.ref C :: bm).contains (.ref C) = true := by simp
  have j1 := hi.keeps kp
  have j2 := (hb (.ref (h.objs.size + 1))).keeps kp
  unfold isInstance
  repeat (first | with_reducible refine wpAny_loadPart_at hg ?_ | (with_reducible refine wpAny_isSubtype_exc hC1 ?_; rw [hcC]) | wp_step)
  show wpAny _ _ (typeLookup (.ref C) _) _ _ _
  refine j1.at ?_
  refine wpAny_holding (wpAny_bind (j2.at ?_))
  refine wpAny_bind (wpAny_call (codeAny_mono hq fun r s' z => ?_))
  rcases r with e | (v | _ | _ | _) <;> first | exact z | exact z.elim | skip
  obtain ⟨rfl, z⟩ := z
  first
    | exact wpAny_pure (wpAny_pure z)
    | (wp_walk; exact z)
theorem call_K (F : ExcBaseFacts B newId initId bmB) (hT : ∀ X : String, bm.contains (.type X) = bmB.contains (.type X)) {rest : List Value} {kw : List (Str × Value)} {fI : Addr}
    (hC : h.get? C = some (excClassObj nm q C N bs bm hdct sn sub ab col dd k0 k1 k2 k3 k5 newId))
    (hi : PySem.W.Looks (model prog w) h (typeLookup (.ref C) "__init__") (some (.ref fI))) (hb : ∀ self, PySem.W.Looks (model prog w) h (bindSpecial (.ref fI) self) (.ref fI, [self])) (hr : rest.length ≤ sizeLine)
    (hq : codeAny (model prog w) (A.under (.builtin "type.__call__" ⟨.ref C :: rest, kw⟩)) (.call (.ref fI) ⟨.ref (h.objs.size + 1) :: rest, kw⟩) (PySem.W.InitBack (h.objs.size + 1) R)
      ⟨(h.push (PySem.W.kdv_tup rest)).push (eO C h.objs.size none), g, d, t, os⟩) :
    codeAny (model prog w) A (.call (.ref C) ⟨rest, kw⟩) R ⟨h, g, d, t, os⟩ := by
  have f1 := tc_lookup
  have f2 := tc_bind (.ref C)
  have hTy : (⟨h, g, d, t, os⟩ : Shared).TypeIs (.ref C) "type" := ⟨_, hC, rfl⟩
  refine codeAny_of_tree ?_
  show wpAny _ _ (callAny (.ref C) _) _ _ _
  repeat (any_goals (first | with_reducible refine wpAny_loadPart_at hC ?_ | assumption | wp_step))
  refine ⟨rfl, ?_⟩
  refine codeAny_call_builtin_at (Code.quiet_builtin _ (by decide +kernel)) entry_typeCall (wpAny_check_type_call_sub hC (type_callK F hT hC hi hb hr ?_))
  refine codeAny_mono hq fun r s' z => ?_
  rcases r with e | (v | _ | _ | _) <;> exact z
end
end L2.Dl

namespace L2.Dl
open PySem PySem.Spec
open Builtin.ObjectAttr
section
variable {prog : Program} {w : World} {A : Around} {E : Value → Shared → Prop} {hp : Heap} {g : Array GenState} {d : Drawn} {t : Nat} {os : OsState} {K : PySem.W.Frag} {B newId i : String} {bmB : List Value} {x C t0 dx : Addr} {name : Str} {v : Value} {Q : Unit → Shared → Prop}
/-- self.name = v, the first one: a dict is laid -/
theorem eset_new (SF : StoreFacts B bmB "object.__setattr__" "object") (X : K.In hp) (hx : hp.get? x = some (eO C t0 none)) (sa : PySem.W.findIn K (.ref C) "__setattr__" = some (some (.builtin "object.__setattr__"))) (ov : PySem.W.excOver K C bmB = true) (tk : PySem.W.takerIn K C name = some none) (hd : PySem.W.hasDictIn K C = true)
    (hq : ∀ h' tk' dx, (∀ b o, b ≠ x → hp.get? b = some o → h'.get? b = some o) → hp.objs.size ≤ dx → dx ≠ x → h'.get? x = some (eO C t0 (some dx)) → h'.Ns1 dx (fun y => if y = name then some v else none) → Q () ⟨h', g, d, tk', os⟩) :
    wpAny (model prog w) A (setAttr (.ref x) name v) Q E ⟨hp, g, d, t, os⟩ := by
  have I : PySem.W.InstAt hp x (eO C t0 none) C none := ⟨hx, rfl, rfl, trivial⟩
  have hxs : x ≠ hp.objs.size := Nat.ne_of_lt (Heap.lt_size hx)
  refine PySem.W.set_plain (od := none) X I sa (PySem.W.osa_openX (s := ⟨hp, g, d, t + 1, os⟩) (od := none) SF X I ov tk fun b => ?_)
  obtain ⟨cd, hc, hd'⟩ := PySem.W.any_some hd
  have hcls : PySem.W.Looks (model prog w) hp (classData C) cd := PySem.W.looks_clsIn X hc
  refine wpAny_bind (wpAny_pure (wpAny_bind (PySem.W.instanceDict_exc hx hcls hd' ?_)))
  show wpAny _ _ (storeInDict hp.objs.size (.str name t) name v) _ _ _
  refine HandSPX.store_in_new ?_ fun h' tk' hn hs => ?_
  · exact ⟨_, #[], _, (Heap.get?_update_ne _ _ _ _ hxs.symm).trans (Heap.get?_push_at rfl rfl), rfl, fun e he => absurd he (by simp), fun _ => rfl⟩
  · have hx1 : (hp.push (PySem.W.dictOf [] 0)).get? x = some (eO C t0 none) := Heap.get?_push_of_some _ hx
    refine hq h' tk' hp.objs.size (fun b o hb ho => ?_) (Nat.le_refl _) hxs.symm ?_ hn
    · exact (hs.2 b (Nat.ne_of_lt (Heap.lt_size ho))).trans ((Heap.get?_update_ne _ _ _ _ hb).trans (Heap.get?_push_of_some _ ho))
    · exact (hs.2 x hxs).trans (Heap.get?_update_self _ hx1 rfl)
/-- a further one -/
theorem eset_old {m0 : Str → Option Value} {nl : List Str} (SF : StoreFacts B bmB "object.__setattr__" "object") (X : K.In hp) (hx : hp.get? x = some (eO C t0 (some dx))) (hns : hp.Ns1 dx m0) (hw : Within m0 nl) (hz : nl.length ≤ 1000) (sa : PySem.W.findIn K (.ref C) "__setattr__" = some (some (.builtin "object.__setattr__"))) (ov : PySem.W.excOver K C bmB = true) (tk : PySem.W.takerIn K C name = some none) (hd : PySem.W.hasDictIn K C = true)
    (hq : ∀ h' tk', (∀ b o, b ≠ dx → hp.get? b = some o → h'.get? b = some o) → h'.Ns1 dx (fun y => if y = name then some v else m0 y) → Q () ⟨h', g, d, tk', os⟩) :
    wpAny (model prog w) A (setAttr (.ref x) name v) Q E ⟨hp, g, d, t, os⟩ := by
  obtain ⟨oD, esD, epD, hoD, hdD, _⟩ := hns.count hw
  have I : PySem.W.InstAt hp x (eO C t0 (some dx)) C (some oD) := ⟨hx, rfl, rfl, hoD⟩
  refine PySem.W.set_plain (od := some oD) X I sa (PySem.W.osa_openX (s := ⟨hp, g, d, t + 1, os⟩) (od := some oD) SF X I ov tk fun b => ?_)
  obtain ⟨cd, hc, hd'⟩ := PySem.W.any_some hd
  have hcls : PySem.W.Looks (model prog w) hp (classData C) cd := PySem.W.looks_clsIn X hc
  refine wpAny_bind (wpAny_pure (wpAny_bind (wpAny_bind (wpAny_loadPart hx (wpAny_bind (hcls.at ?_))))))
  rw [hd']
  refine wpAny_pure (a := some dx) ?_
  exact OEX.store_in_old hns hw hz fun h' tk' hn hs => hq h' tk' (fun b o hb ho => (hs.2 b hb).trans ho) hn
end
/-! ### the class, by the written part -/
structure ErrC (P : Program) (K : PySem.W.Frag) (C : Addr) (B newId i : String) (bmB : List Value) (fI cda cc : Addr) (qual : Str) (params : Arguments) (body : List Stmt) (scope : Scope) : Prop where
  bx : BaseX B newId i bmB
  mkx : PySem.W.excInitIn K C bmB newId = true
  ov : PySem.W.excOver K C bmB = true
  ini : PySem.W.findIn K (.ref C) "__init__" = some (some (.ref fI))
  fn : PySem.W.isFn K (.ref fI) = true
  fd : ∃ oc od nm kV doc pm an ct osl, K.lookup fI = some ⟨oc, od, .func (PySem.W.ksFn nm qual params body scope .none kV doc pm an (.ref cda) ct cc), osl⟩
  cd : PySem.W.codeIn K (.ref cda) qual = true
  co : ∃ ccl cdd vs ccs file tf, K.lookup cda = some ⟨ccl, cdd, .fields vs, ccs⟩ ∧ vs[2]? = some (.str file tf) ∧ ((P.main.file : Str) == file) = true
  ce : ∃ cl cld csl, K.lookup cc = some ⟨cl, cld, .cell (some (.ref C)), csl⟩
  mr : PySem.W.mroIn K C (.ref C) = some true
  su : PySem.W.nsIn K mainGlobals "super" = some none
  tp : PySem.W.nsIn K cStatics "thirdparty.any" = some none
  si : PySem.W.ks_superIn K C C "__init__" = some (some (.builtin i))
  sb : PySem.W.subIn K (.ref C) (.type B) = some true
  sa : PySem.W.findIn K (.ref C) "__setattr__" = some (some (.builtin "object.__setattr__"))
  hd : PySem.W.hasDictIn K C = true
  cl : (PySem.W.clsIn K C).isSome = true
  ts : (P.main.scope.names.lookup ("super" : Str)).isSome = false
section
variable {P : Program} {w : World} {K : PySem.W.Frag} {mg : Str → Option Value} {base : Heap} {A : Around} {E : Value → Shared → Prop} {hp : Heap} {g : Array GenState} {d : Drawn} {t : Nat} {os : OsState}
variable {C fI cda cc e t0 L : Addr} {B newId i : String} {bmB : List Value} {qual : Str} {params : Arguments} {body : List Stmt} {scope : Scope} {ar : Arg} {m : Str → Option Value} {Q : Value → Shared → Prop}
/-- super().__init__('..') -/
theorem esup {body' : List Stmt} {p0 p1 p2 p3 p4 : Pos} {j : Nat} {lit : Str} {pl : Sem Bool} (c : ErrC P K C B newId i bmB fI cda cc qual params body scope) (md : Mod K mg base) (bk : ∀ b o, base.get? b = some o → hp.get? b = some o)
    (hL : hp.Ns L m) (he : hp.get? e = some (eO C t0 none)) (hpa : (params.posonlyargs ++ params.args).head? = some ar) (hv : m ar.arg = some (.ref e))
    (hks : scope.names.lookup ("super" : Str) = some .globalImplicit) (hkc : scope.names.lookup ("__class__" : Str) = some .free) (hka : scope.names.lookup ar.arg = some .local) (hk : scope.kind = .function)
    (hq : ∀ v h' t1 tk, (∀ b o, b ≠ e → hp.get? b = some o → h'.get? b = some o) → h'.get? e = some (eO C t1 none) → Q v ⟨h', g, d, tk, os⟩)
    (ht : eval (.Call (.Attribute (.Call (.Name "super" p0) [] [] p1) "__init__" p2) [.Constant (.str lit) j p3] [] p4) (PySem.W.ksEnv qual scope L fI (.ref cda) cc) = (do
      let ov ← attributeBase (.Call (.Name "super" p0) [] [] p1) "__init__" (PySem.W.ksEnv qual scope L fI (.ref cda) cc) (eval (.Call (.Name "super" p0) [] [] p1) (PySem.W.ksEnv qual scope L fI (.ref cda) cc))
      standAt p2.atName
      let (f, first) ← holding [ov] (getMethod ov "__init__" pl)
      callWith p4 f first (backTo p4 (starEach [.Constant (.str lit) j p3] (PySem.W.ksEnv qual scope L fI (.ref cda) cc))) [])) :
    _root_.PySem.wpAt (model P w) A (.func body' (PySem.W.ksEnv qual scope L fI (.ref cda) cc)) (eval (.Call (.Attribute (.Call (.Name "super" p0) [] [] p1) "__init__" p2) [.Constant (.str lit) j p3] [] p4) (PySem.W.ksEnv qual scope L fI (.ref cda) cc)) Q E ⟨hp, g, d, t, os⟩ := by
  have X : K.In hp := md.kin.keeps bk
  obtain ⟨oc, od, nm, kV, doc, pm, an, ct, osl, hf⟩ := c.fd
  obtain ⟨ccl, cdd, vs, ccs, file, tf, hco, hvs, hfile⟩ := c.co
  obtain ⟨cl, cld, csl, hce⟩ := c.ce
  obtain ⟨cdC, hcC⟩ := Option.isSome_iff_exists.mp c.cl
  obtain ⟨oD, hD1, hD2⟩ : ∃ oD, hp.get? C = some oD ∧ oD.data = .cls cdC := by
    unfold PySem.W.clsIn at hcC
    split at hcC
    · rename_i c1 d1 cd1 sl1 ho
      cases hcC
      exact ⟨_, X _ _ ho, rfl⟩
    · cases hcC
  obtain ⟨mb, hb1, hb2⟩ := md.blt
  have I : PySem.W.InstAt hp e (eO C t0 none) C none := ⟨he, rfl, rfl, trivial⟩
  refine ks_wpAt_MethodCall (pl := pl) ?_ ht
  refine ks_wpAt_super_base (env := PySem.W.ksEnv qual scope L fI (.ref cda) cc) hks hkc (by decide) rfl (X _ _ hf) rfl hpa rfl (X _ _ hco) rfl hvs hfile c.ts ?_
  refine PySem.W.ks_loadName_global hk hks (Calls.loadGlobal_builtin (env := PySem.W.ksEnv qual scope L fI (.ref cda) cc) (md.glob.keeps bk) (PySem.W.mg_none_of md.kin md.glob c.su) (hb1.keeps bk) ((hb2 "super" (by decide)).trans (show bootBuiltins "super" = some (.type "super") by kernel_rfl)) ⟨rfl, ?_⟩)
  refine wpAny_loadName_free hk hkc rfl ⟨_, X _ _ hce, rfl⟩ ?_
  refine wpAny_loadName_local hk hka hL hv ?_
  refine ks_wpAny_isType_cls hD1 hD2 ⟨rfl, ?_⟩
  refine ks_wpAny_call_super hD1 hD2 he rfl (fun c z => nomatch z) (PySem.W.looks_mroIn X c.mr) (fun h1 e1 k1 => ?_)
  have X1 : K.In h1 := X.keeps k1
  have he1 := k1 _ _ he
  have I1 : PySem.W.InstAt h1 e (eO C t0 none) C none := ⟨he1, rfl, rfl, trivial⟩
  have hsi := c.si
  unfold PySem.W.ks_superIn at hsi
  rw [hcC] at hsi
  refine PySem.W.kxs_getMethod c.bx.kx e1 (PySem.W.looks_opaque X1 c.tp) (l₀ := cdC.mro) ((PySem.W.looks_clsIn X1 hcC).andThen .now) rfl X1 hsi (I1.type.andThen (PySem.W.looks_subIn X1 c.sb)) (PySem.W.ks_ne X1 I1 hcC) (by decide) ?_
  have k2 : ∀ b o, h1.get? b = some o → (h1.push (PySem.W.kxs_mw i e)).get? b = some o := fun b o z => Heap.get?_push_of_some _ z
  have hu : (h1.push (PySem.W.kxs_mw i e)).get? h1.objs.size = some (PySem.W.kxs_mw i e) := Heap.get?_push_size _ rfl
  show wpAny _ _ (callWith p4 (Value.ref h1.objs.size) [] _ []) _ _ _
  refine PySem.W.kxs_callWith (i := i) (x := e) rfl (Calls.evalArgs_plain ?_)
  show wpAny (model P w) A (spliced [(false, eval (.Constant (.str lit) j p3) (PySem.W.ksEnv qual scope L fI (.ref cda) cc))]) _ _ _
  refine Calls.spliced_cons (wpAny_Constant_str (Calls.spliced_nil ⟨hu, ?_⟩))
  refine wpAny_call (codeAny_of_tree ?_)
  show wpAny _ A.in1 (callAny (.ref h1.objs.size) ⟨[.str lit _], []⟩) _ _ _
  simp only [callAny]
  refine wpAny_bind (wpAny_load hu ?_)
  simp only [PySem.W.kxs_mw, show (Value.type "method-wrapper" == Value.type "method" || Value.type "method-wrapper" == Value.type "builtin_function_or_method" || Value.type "method-wrapper" == Value.type "method-wrapper") = true by decide, if_true]
  refine PySem.W.KFB.if_so (by decide) ?_
  obtain ⟨nm1, N1, qn1, bs1, bm1, hd1, sn1, sub1, ab1, col1, dd1, a0, a1, a2, a3, a5, hCo, _⟩ := PySem.W.excInit_of (X1.keeps k2) c.mkx
  refine wpAny_bind (PySem.W.check_bound_init c.bx.eb.toExcCallFacts hCo (k2 _ _ he1) rfl ?_)
  refine wpAny_bind (wpAny_pure (wpAny_pure ?_))
  refine ⟨plainId_quiet c.bx.eb.init.plain _, codeAny_builtin c.bx.eb.initEntry ?_⟩
  refine PySem.W.exc_init_tree (cls := .ref C) (t0 := t0) (dv := none) (c2 := .none) (c3 := .none) (b4 := .bool false) (k2 _ _ he1) (by rw [sizeLine_eq]; simp) fun h' k' e' _ => ?_
  exact hq _ h' _ _ (fun b o hb ho => k' b o hb (k2 _ _ (k1 _ _ ho))) e'
abbrev supE (lit : Str) (p0 p1 p2 p3 p4 : Pos) (j : Nat) : Expr := .Call (.Attribute (.Call (.Name "super" p0) [] [] p1) "__init__" p2) [.Constant (.str lit) j p3] [] p4
/-- the dict of an error -/
def eMap (fs : List (Str × Value)) : Str → Option Value := fun y => fs.lookup y
theorem ns_keep {h h' : Heap} {L : Addr} {m : Str → Option Value} (n : h.Ns L m) (k : ∀ o, h.get? L = some o → h'.get? L = some o) : h'.Ns L m := by
  obtain ⟨oL, es, ep, ho, r⟩ := n
  exact ⟨oL, es, ep, k _ ho, r⟩
theorem ns1_keep {h h' : Heap} {L : Addr} {m : Str → Option Value} (n : h.Ns1 L m) (k : ∀ o, h.get? L = some o → h'.get? L = some o) : h'.Ns1 L m := by
  obtain ⟨oL, es, ep, ho, r⟩ := n
  exact ⟨oL, es, ep, k _ ho, r⟩
/-- def __init__(self): super().__init__('..'); self.code = '..' -/
theorem einit0 {R : Result → Shared → Prop} {us : List Value} {kw : List (Str × Value)} {lit lit2 : Str} {p0 p1 p2 p3 p4 q1 a0 a1 a2 a3 : Pos} {j j2 : Nat}
    (c : ErrC P K C B newId i bmB fI cda cc qual params [.Expr (supE lit p0 p1 p2 p3 p4 j) q1, .Assign [.Attribute (.Name "self" a0) "code" a1] (.Constant (.str lit2) j2 a2) a3] scope)
    (tk1 : PySem.W.takerIn K C "code" = some none) (md : Mod K mg base) (bk : ∀ b o, base.get? b = some o → hp.get? b = some o) (ebs : base.get? e = none) (he : hp.get? e = some (eO C t0 none)) (hroom : A.depth < recursionLimit)
    (hbind : ∀ nm kV doc pm an ct, bindArgs (PySem.W.ksFn nm qual params [.Expr (supE lit p0 p1 p2 p3 p4 j) q1, .Assign [.Attribute (.Name "self" a0) "code" a1] (.Constant (.str lit2) j2 a2) a3] scope .none kV doc pm an (.ref cda) ct cc) ⟨us, kw⟩ = pure [(("self" : Str), Value.ref e)])
    (hpa : (params.posonlyargs ++ params.args).head? = some ar) (har : ar.arg = ("self" : Str))
    (hks : scope.names.lookup ("super" : Str) = some .globalImplicit) (hkc : scope.names.lookup ("__class__" : Str) = some .free) (hka : scope.names.lookup ("self" : Str) = some .local)
    (hcell : ∀ x ∈ scope.names, x.2 ≠ .cell) (hco : scope.isCoroutine = false) (hgen : scope.isGenerator = false) (hk : scope.kind = .function)
    (ht : ∀ L, ∃ pl : Sem Bool, eval (supE lit p0 p1 p2 p3 p4 j) (PySem.W.ksEnv qual scope L fI (.ref cda) cc) = (do
      let ov ← attributeBase (.Call (.Name "super" p0) [] [] p1) "__init__" (PySem.W.ksEnv qual scope L fI (.ref cda) cc) (eval (.Call (.Name "super" p0) [] [] p1) (PySem.W.ksEnv qual scope L fI (.ref cda) cc))
      standAt p2.atName
      let (f, first) ← holding [ov] (getMethod ov "__init__" pl)
      callWith p4 f first (backTo p4 (starEach [.Constant (.str lit) j p3] (PySem.W.ksEnv qual scope L fI (.ref cda) cc))) []))
    (hq : ∀ h' t1 dx tk tk2, (∀ b o, b ≠ e → hp.get? b = some o → h'.get? b = some o) → h'.get? e = some (eO C t1 (some dx)) → hp.objs.size ≤ dx → h'.Ns1 dx (fun y => if y = "code" then some (.str lit2 tk2) else none) → R (.ok (.ret .none)) ⟨h', g, d, tk, os⟩) :
    codeAny (model P w) A (.call (.ref fI) ⟨us, kw⟩) R ⟨hp, g, d, t, os⟩ := by
  have X : K.In hp := md.kin.keeps bk
  obtain ⟨oc, od, nm, kV, doc, pm, an, ct, osl, hf⟩ := c.fd
  have heL : e < hp.objs.size := Heap.lt_size he
  obtain ⟨pl, htl⟩ := ht hp.objs.size
  have hLe : hp.objs.size ≠ e := Nat.ne_of_gt heL
  have hbe : ∀ b o, base.get? b = some o → b ≠ e := fun b o z q => by rw [q, ebs] at z; cases z
  refine ks_codeAny_call_defAt (s := ⟨hp, g, d, t, os⟩) hroom (X _ _ hf) rfl (md.nolimit.keeps bk) (PySem.W.codeRec_of X c.cd) rfl (BindsTo.of_eq (hbind nm kV doc pm an ct)) hcell (fun x hx => by simp at hx; subst hx; exact hka) (fun h0 hns k0 => ?_) hco hgen hk
  have hns : h0.Ns hp.objs.size (fun x => List.lookup x [(("self" : Str), Value.ref e)]) := hns
  have k0 : ∀ b o, hp.get? b = some o → h0.get? b = some o := k0
  have sv : List.lookup ("self" : Str) [(("self" : Str), Value.ref e)] = some (Value.ref e) := rfl
  show _root_.PySem.wpAt _ _ (.func _ (PySem.W.ksEnv qual scope hp.objs.size fI (.ref cda) cc)) (execs _ (PySem.W.ksEnv qual scope hp.objs.size fI (.ref cda) cc)) _ _ _
  refine ks_wpAt_execs_cons (ks_wpAt_Expr_any (esup c md (fun b o z => k0 _ _ (bk b o z)) hns (k0 _ _ he) hpa (by rw [har]; exact sv) hks hkc (by rw [har]; exact hka) hk (fun v h1 t1 tka kk1 e1 => ?_) htl) (hi := by unfold interactive; rw [show (PySem.W.ksEnv qual scope hp.objs.size fI (Value.ref cda) cc).scope.kind = .function from hk]; rfl))
  have kh1 : ∀ b o, b ≠ e → hp.get? b = some o → h1.get? b = some o := fun b o hb z => kk1 b o hb (k0 b o z)
  have X1 : K.In h1 := md.kin.keeps fun b o z => kh1 b o (hbe b o z) (bk b o z)
  have n1 := ns_keep hns fun o z => kk1 _ o hLe z
  refine ks_wpAt_execs_cons (ks_wpAt_Assign_Attr (_root_.PySem.wpAt_of_wpAny (wpAny_Constant_str (wpAny_Name (wpAny_loadName_local hk hka n1 sv ?_)))))
  refine eset_new c.bx.sf X1 e1 c.sa c.ov tk1 c.hd fun h2 tkb dx k2 dl dne e2 d2 => ?_
  refine _root_.PySem.wpAt_of_wpAny ?_
  rw [execs_nil]
  refine wpAny_pure ?_
  refine hq h2 t1 dx tkb _ (fun b o hb z => k2 b o hb (kh1 b o hb z)) e2 ?_ d2
  exact Nat.le_trans (Nat.le_of_lt (n1.lt)) dl
/-- .. self.pn = pn -/
theorem einit1 {R : Result → Shared → Prop} {us : List Value} {kw : List (Str × Value)} {lit lit2 pn : Str} {p0 p1 p2 p3 p4 q1 a0 a1 a2 a3 b0 b1 b2 b3 : Pos} {j j2 : Nat} {u : Value}
    (c : ErrC P K C B newId i bmB fI cda cc qual params [.Expr (supE lit p0 p1 p2 p3 p4 j) q1, .Assign [.Attribute (.Name "self" a0) "code" a1] (.Constant (.str lit2) j2 a2) a3, .Assign [.Attribute (.Name "self" b0) pn b1] (.Name pn b2) b3] scope)
    (tk1 : PySem.W.takerIn K C "code" = some none) (tk2 : PySem.W.takerIn K C pn = some none) (hpn : pn ≠ ("self" : Str)) (hdb : (pn == ("__debug__" : Str)) = false) (hkp : scope.names.lookup pn = some .local) (md : Mod K mg base) (bk : ∀ b o, base.get? b = some o → hp.get? b = some o) (ebs : base.get? e = none) (he : hp.get? e = some (eO C t0 none)) (hroom : A.depth < recursionLimit)
    (hbind : ∀ nm kV doc pm an ct, bindArgs (PySem.W.ksFn nm qual params [.Expr (supE lit p0 p1 p2 p3 p4 j) q1, .Assign [.Attribute (.Name "self" a0) "code" a1] (.Constant (.str lit2) j2 a2) a3, .Assign [.Attribute (.Name "self" b0) pn b1] (.Name pn b2) b3] scope .none kV doc pm an (.ref cda) ct cc) ⟨us, kw⟩ = pure [(("self" : Str), Value.ref e), (pn, u)])
    (hpa : (params.posonlyargs ++ params.args).head? = some ar) (har : ar.arg = ("self" : Str))
    (hks : scope.names.lookup ("super" : Str) = some .globalImplicit) (hkc : scope.names.lookup ("__class__" : Str) = some .free) (hka : scope.names.lookup ("self" : Str) = some .local)
    (hcell : ∀ x ∈ scope.names, x.2 ≠ .cell) (hco : scope.isCoroutine = false) (hgen : scope.isGenerator = false) (hk : scope.kind = .function)
    (ht : ∀ L, ∃ pl : Sem Bool, eval (supE lit p0 p1 p2 p3 p4 j) (PySem.W.ksEnv qual scope L fI (.ref cda) cc) = (do
      let ov ← attributeBase (.Call (.Name "super" p0) [] [] p1) "__init__" (PySem.W.ksEnv qual scope L fI (.ref cda) cc) (eval (.Call (.Name "super" p0) [] [] p1) (PySem.W.ksEnv qual scope L fI (.ref cda) cc))
      standAt p2.atName
      let (f, first) ← holding [ov] (getMethod ov "__init__" pl)
      callWith p4 f first (backTo p4 (starEach [.Constant (.str lit) j p3] (PySem.W.ksEnv qual scope L fI (.ref cda) cc))) []))
    (hq : ∀ h' t1 dx tk tk2, (∀ b o, b ≠ e → hp.get? b = some o → h'.get? b = some o) → h'.get? e = some (eO C t1 (some dx)) → hp.objs.size ≤ dx → h'.Ns1 dx (fun y => if y = pn then some u else if y = "code" then some (.str lit2 tk2) else none) → R (.ok (.ret .none)) ⟨h', g, d, tk, os⟩) :
    codeAny (model P w) A (.call (.ref fI) ⟨us, kw⟩) R ⟨hp, g, d, t, os⟩ := by
  have X : K.In hp := md.kin.keeps bk
  obtain ⟨oc, od, nm, kV, doc, pm, an, ct, osl, hf⟩ := c.fd
  have heL : e < hp.objs.size := Heap.lt_size he
  obtain ⟨pl, htl⟩ := ht hp.objs.size
  have hLe : hp.objs.size ≠ e := Nat.ne_of_gt heL
  have hbe : ∀ b o, base.get? b = some o → b ≠ e := fun b o z q => by rw [q, ebs] at z; cases z
  refine ks_codeAny_call_defAt (s := ⟨hp, g, d, t, os⟩) hroom (X _ _ hf) rfl (md.nolimit.keeps bk) (PySem.W.codeRec_of X c.cd) rfl (BindsTo.of_eq (hbind nm kV doc pm an ct)) hcell (fun x hx => by simp at hx; rcases hx with rfl | rfl; exact hka; exact hkp) (fun h0 hns k0 => ?_) hco hgen hk
  have hns : h0.Ns hp.objs.size (fun x => List.lookup x [(pn, u), (("self" : Str), Value.ref e)]) := hns
  have k0 : ∀ b o, hp.get? b = some o → h0.get? b = some o := k0
  have sv : List.lookup ("self" : Str) [(pn, u), (("self" : Str), Value.ref e)] = some (Value.ref e) := (by show List.lookup ("self" : Str) [(pn, u), (("self" : Str), Value.ref e)] = _; rw [List.lookup_cons, show ((("self" : Str) == pn) = false) from by simpa using Ne.symm hpn]; rfl)
  show _root_.PySem.wpAt _ _ (.func _ (PySem.W.ksEnv qual scope hp.objs.size fI (.ref cda) cc)) (execs _ (PySem.W.ksEnv qual scope hp.objs.size fI (.ref cda) cc)) _ _ _
  refine ks_wpAt_execs_cons (ks_wpAt_Expr_any (esup c md (fun b o z => k0 _ _ (bk b o z)) hns (k0 _ _ he) hpa (by rw [har]; exact sv) hks hkc (by rw [har]; exact hka) hk (fun v h1 t1 tka kk1 e1 => ?_) htl) (hi := by unfold interactive; rw [show (PySem.W.ksEnv qual scope hp.objs.size fI (Value.ref cda) cc).scope.kind = .function from hk]; rfl))
  have kh1 : ∀ b o, b ≠ e → hp.get? b = some o → h1.get? b = some o := fun b o hb z => kk1 b o hb (k0 b o z)
  have X1 : K.In h1 := md.kin.keeps fun b o z => kh1 b o (hbe b o z) (bk b o z)
  have n1 := ns_keep hns fun o z => kk1 _ o hLe z
  refine ks_wpAt_execs_cons (ks_wpAt_Assign_Attr (_root_.PySem.wpAt_of_wpAny (wpAny_Constant_str (wpAny_Name (wpAny_loadName_local hk hka n1 sv ?_)))))
  refine eset_new c.bx.sf X1 e1 c.sa c.ov tk1 c.hd fun h2 tkb dx k2 dl dne e2 d2 => ?_
  have kh2 : ∀ b o, b ≠ e → hp.get? b = some o → h2.get? b = some o := fun b o hb z => k2 b o hb (kh1 b o hb z)
  have X2 : K.In h2 := md.kin.keeps fun b o z => kh2 b o (hbe b o z) (bk b o z)
  have n2 := ns_keep n1 fun o z => k2 _ o hLe z
  have hdx : hp.objs.size < dx := Nat.lt_of_lt_of_le n1.lt dl
  refine ks_wpAt_execs_cons (ks_wpAt_Assign_Attr (_root_.PySem.wpAt_of_wpAny (wpAny_Name (wpAny_loadName_local hk hkp n2 (show List.lookup pn [(pn, u), (("self" : Str), Value.ref e)] = some u by simp [List.lookup]) (wpAny_Name (wpAny_loadName_local hk hka n2 sv ?_))) hdb)))
  refine eset_old c.bx.sf X2 e2 d2 (Within.cons "code" _ Within.nil) (by simp) c.sa c.ov tk2 c.hd fun h3 tkc k3 d3 => ?_
  refine _root_.PySem.wpAt_of_wpAny ?_
  rw [execs_nil]
  refine wpAny_pure ?_
  refine hq h3 t1 dx tkc _ (fun b o hb z => k3 b o (fun y => ?_) (kh2 b o hb z)) (k3 _ _ dne.symm e2) (Nat.le_of_lt hdx) d3
  have := Heap.lt_size z
  rw [y] at this
  exact absurd (Nat.lt_trans this hdx) (Nat.lt_irrefl _)
end
end L2.Dl

namespace L2.Dl
open PySem PySem.Spec PyProof.Rows
/-! ### errors as values -/
theorem lay_exn {X : Cx} {pins : List (Addr × Obj)} {σ : L2.St} {H : Hp} {s : Shared} {F : List Addr} {M : MM} {Q : QD} {h' : Heap} {tk : Nat} {e dx t1 : Addr} {Cn : Str} {fsV : List (Str × V)} {fsD : List (Str × D)} {mA : Str → Option Value}
    (I : Inv X pins σ H s) (mm : RMM X.K F H M) (k : ∀ b o, s.heap.get? b = some o → h'.get? b = some o) (he : h'.get? e = some (eO (He.ga X.K Cn) t1 (some dx))) (hn : h'.Ns1 dx mA) (le : s.heap.objs.size ≤ e) (ld : s.heap.objs.size ≤ dx)
    (rel : ∀ f, RelO (fsV.lookup f) (mA f)) (rp : RepF X.K (ak F M) H Str fsV fsD) (q : Q (.exn Cn fsD) M) : EPD X F pins σ H M Q (.ref e) { s with heap := h', toks := tk } := by
  have hd : H dx = none := I.hok.fresh ld
  have hee : H e = none := I.hok.fresh le
  have hne : dx ≠ e := fun z => by
    obtain ⟨o, es, ep, ho, r⟩ := hn
    rw [z, he] at ho
    cases ho
    cases r.1
  have hee1 : upd H dx (.xd fsV) e = none := by rw [upd_ne hne.symm]; exact hee
  have lt : ∀ {b : Addr} {o : Obj}, s.heap.get? b = some o → b ≠ e ∧ b ≠ dx := fun {b o} z => ⟨Nat.ne_of_lt (Nat.lt_of_lt_of_le (Heap.lt_size z) le), Nat.ne_of_lt (Nat.lt_of_lt_of_le (Heap.lt_size z) ld)⟩
  have U : Un X.fs [] H (upd (upd H dx (.xd fsV)) e (.frz (eO (He.ga X.K Cn) t1 (some dx)) (.own e))) s.heap h' := {
    keep := fun b o z _ _ _ => k b o z
    slot := fun b o z _ _ _ => ⟨o.slots, k b o z⟩
    free := fun b o z n _ => by rw [upd_ne (lt z).1, upd_ne (lt z).2]; exact n
    there := fun b o z _ => ⟨o, k b o z⟩
    tups := fun b xs z => by rw [upd_ne (ne_of_none z hee), upd_ne (ne_of_none z hd)]; exact z
    frzs := fun b o u z => by rw [upd_ne (ne_of_none z hee), upd_ne (ne_of_none z hd)]; exact z
    tbls := fun b ps z => ⟨#[], by rw [upd_ne (ne_of_none z hee), upd_ne (ne_of_none z hd), z]; simp⟩ }
  have ok : HOk X.prog X.w (upd (upd H dx (.xd fsV)) e (.frz (eO (He.ga X.K Cn) t1 (some dx)) (.own e))) h' := fun b o z => by
    by_cases hb : b = e
    · subst hb
      rw [upd_same] at z
      cases z
      exact ⟨he, ⟨_, he⟩⟩
    · rw [upd_ne hb] at z
      by_cases hb2 : b = dx
      · subst hb2
        rw [upd_same] at z
        cases z
        exact ⟨mA, hn, rel⟩
      · rw [upd_ne hb2] at z
        exact (I.hok b o z).stay (fun c v _ y => k c v y) (fun c y => by rw [upd_ne (ne_of_none y hee), upd_ne (ne_of_none y hd)]; exact y) fun c xs y => by rw [upd_ne (ne_of_none y hee), upd_ne (ne_of_none y hd)]; exact y
  have J := I.un (t' := tk) U ok
  have st1 : Stp H (keys M) (upd H dx (.xd fsV)) (keys M) := stp_new hd
  have st : Stp H (keys M) (upd (upd H dx (.xd fsV)) e (.frz (eO (He.ga X.K Cn) t1 (some dx)) (.own e))) (keys M) := st1.trans (stp_new hee1)
  have m1 := mm.new (o := .xd fsV) hd
  have m2 := m1.new (o := .frz (eO (He.ga X.K Cn) t1 (some dx)) (.own e)) hee1
  exact ⟨.ref e, _, .exn Cn fsD, M, J, rfl, st, m2, .exn (m1.notin hee1) upd_same ⟨rfl, rfl⟩ ⟨_, rfl⟩ (mm.notin hd) (by rw [upd_ne hne, upd_same]) (rp.step st.fix), q⟩
def spErr1 (Cn lit pn : Str) : SpS := fun xs _ M _ Q => match xs with
  | [v] => Q (.exn Cn [("code", .str lit), (pn, v)]) M
  | _ => False
@[simp ↓] theorem spErr1_eq (Cn lit pn : Str) : ∀ xs ys M Z Q, spErr1 Cn lit pn xs ys M Z Q = (match xs with
  | [v] => Q (.exn Cn [("code", .str lit), (pn, v)]) M
  | _ => False) := fun _ _ _ _ _ => rfl
def spErrK (Cn lit pn : Str) : SpS := fun xs ys M _ Q => match xs, ys with
  | [], [v] => Q (.exn Cn [("code", .str lit), (pn, v)]) M
  | _, _ => False
@[simp ↓] theorem spErrK_eq (Cn lit pn : Str) : ∀ xs ys M Z Q, spErrK Cn lit pn xs ys M Z Q = (match xs, ys with
  | [], [v] => Q (.exn Cn [("code", .str lit), (pn, v)]) M
  | _, _ => False) := fun _ _ _ _ _ => rfl
def spErr0 (Cn lit : Str) : SpS := fun xs _ M _ Q => match xs with
  | [] => Q (.exn Cn [("code", .str lit)]) M
  | _ => False
@[simp ↓] theorem spErr0_eq (Cn lit : Str) : ∀ xs ys M Z Q, spErr0 Cn lit xs ys M Z Q = (match xs with
  | [] => Q (.exn Cn [("code", .str lit)]) M
  | _ => False) := fun _ _ _ _ _ => rfl
/-- the form of such a def -/
structure IsErr0 (qual : Str) (params : Arguments) (body : List Stmt) (scope : Scope) (lit : Str) : Prop where
  body_ : ∃ (p0 p1 p2 p3 p4 q1 a0 a1 a2 a3 : Pos) (j j2 : Nat), body = [.Expr (supE lit p0 p1 p2 p3 p4 j) q1, .Assign [.Attribute (.Name "self" a0) "code" a1] (.Constant (.str lit) j2 a2) a3] ∧ ∀ L fI cda cc, ∃ pl : Sem Bool, eval (supE lit p0 p1 p2 p3 p4 j) (PySem.W.ksEnv qual scope L fI (.ref cda) cc) = (do
      let ov ← attributeBase (.Call (.Name "super" p0) [] [] p1) "__init__" (PySem.W.ksEnv qual scope L fI (.ref cda) cc) (eval (.Call (.Name "super" p0) [] [] p1) (PySem.W.ksEnv qual scope L fI (.ref cda) cc))
      standAt p2.atName
      let (f, first) ← holding [ov] (getMethod ov "__init__" pl)
      callWith p4 f first (backTo p4 (starEach [.Constant (.str lit) j p3] (PySem.W.ksEnv qual scope L fI (.ref cda) cc))) [])
  b0 : ∀ nm kV doc pm an cda ct cc e, bindArgs (PySem.W.ksFn nm qual params body scope .none kV doc pm an (.ref cda) ct cc) ⟨[e], []⟩ = pure [(("self" : Str), e)]
  hpa : ∃ ar, (params.posonlyargs ++ params.args).head? = some ar ∧ ar.arg = ("self" : Str)
  hks : scope.names.lookup ("super" : Str) = some .globalImplicit
  hkc : scope.names.lookup ("__class__" : Str) = some .free
  hka : scope.names.lookup ("self" : Str) = some .local
  hcell : ∀ x ∈ scope.names, x.2 ≠ .cell
  hco : scope.isCoroutine = false
  hgen : scope.isGenerator = false
  hk : scope.kind = .function
  okl : PyData.strOk lit = true
/-- the form of such a def -/
structure IsErr1 (qual : Str) (params : Arguments) (body : List Stmt) (scope : Scope) (lit pn : Str) : Prop where
  body_ : ∃ (p0 p1 p2 p3 p4 q1 a0 a1 a2 a3 b0 b1 b2 b3 : Pos) (j j2 : Nat), body = [.Expr (supE lit p0 p1 p2 p3 p4 j) q1, .Assign [.Attribute (.Name "self" a0) "code" a1] (.Constant (.str lit) j2 a2) a3, .Assign [.Attribute (.Name "self" b0) pn b1] (.Name pn b2) b3] ∧ ∀ L fI cda cc, ∃ pl : Sem Bool, eval (supE lit p0 p1 p2 p3 p4 j) (PySem.W.ksEnv qual scope L fI (.ref cda) cc) = (do
      let ov ← attributeBase (.Call (.Name "super" p0) [] [] p1) "__init__" (PySem.W.ksEnv qual scope L fI (.ref cda) cc) (eval (.Call (.Name "super" p0) [] [] p1) (PySem.W.ksEnv qual scope L fI (.ref cda) cc))
      standAt p2.atName
      let (f, first) ← holding [ov] (getMethod ov "__init__" pl)
      callWith p4 f first (backTo p4 (starEach [.Constant (.str lit) j p3] (PySem.W.ksEnv qual scope L fI (.ref cda) cc))) [])
  b1 : ∀ nm kV doc pm an cda ct cc e u, bindArgs (PySem.W.ksFn nm qual params body scope .none kV doc pm an (.ref cda) ct cc) ⟨[e, u], []⟩ = pure [(("self" : Str), e), (pn, u)]
  bk : ∀ nm kV doc pm an cda ct cc e u, bindArgs (PySem.W.ksFn nm qual params body scope .none kV doc pm an (.ref cda) ct cc) ⟨[e], [(pn, u)]⟩ = pure [(("self" : Str), e), (pn, u)]
  hpn : pn ≠ ("self" : Str)
  hpc : pn ≠ ("code" : Str)
  hdb : (pn == ("__debug__" : Str)) = false
  hkp : scope.names.lookup pn = some .local
  hpa : ∃ ar, (params.posonlyargs ++ params.args).head? = some ar ∧ ar.arg = ("self" : Str)
  hks : scope.names.lookup ("super" : Str) = some .globalImplicit
  hkc : scope.names.lookup ("__class__" : Str) = some .free
  hka : scope.names.lookup ("self" : Str) = some .local
  hcell : ∀ x ∈ scope.names, x.2 ≠ .cell
  hco : scope.isCoroutine = false
  hgen : scope.isGenerator = false
  hk : scope.kind = .function
  okl : PyData.strOk lit = true
section
variable {X : Cx} {Cn lit pn qual : Str} {B newId i : String} {bmB : List Value} {fI cda cc : Addr} {params : Arguments} {body : List Stmt} {scope : Scope} {k : Nat}
theorem err_go {us ws : List Value} {ks : List Str} {pins : List (Addr × Obj)} {σ : L2.St} {H : Hp} {s : Shared} {Q : Value → Shared → Prop} {E : Value → Shared → Prop} (c : ErrC X.prog X.K (He.ga X.K Cn) B newId i bmB fI cda cc qual params body scope) (I : Inv X pins σ H s) (hus : us.length ≤ sizeLine)
    (h : ∀ h0 e, (∀ b o, s.heap.get? b = some o → h0.get? b = some o) → s.heap.objs.size ≤ e → X.base.get? e = none → h0.get? e = some (eO (He.ga X.K Cn) s.heap.objs.size none) → s.heap.objs.size ≤ h0.objs.size →
      codeAny (model X.prog X.w) (X.A.under (.builtin "type.__call__" ⟨.ref (He.ga X.K Cn) :: us, ks.zip ws⟩)) (.call (.ref fI) ⟨.ref e :: us, ks.zip ws⟩) (PySem.W.InitBack e (wants Q E)) { s with heap := h0 }) :
    wpAny (model X.prog X.w) X.A (call (.ref (He.ga X.K Cn)) us (ks.zip ws)) Q E s := by
  have KI := I.kIn
  obtain ⟨nm, N, qn, bs, bm, hdct, sn, sub, ab, col, dd, k0, k1, k2, k3, k5, hC, hT⟩ := PySem.W.excInit_of KI c.mkx
  have hni : s.heap.objs.size ≤ s.heap.objs.size + 1 := Nat.le_succ _
  have hbs := ClX.base_none I hni
  have tI : PySem.W.typeIn X.K (.ref fI) = some (.type "function") := by
    have := c.fn
    unfold PySem.W.isFn at this
    exact beq_iff_eq.mp this
  have hi := PySem.W.looks_findIn (M := model X.prog X.w) KI c.ini
  have hb := fun self => PySem.W.bind_fn (M := model X.prog X.w) KI self tI
  obtain ⟨hp, g, d, t, os⟩ := s
  refine wpAny_call (call_K c.bx.eb hT hC hi hb hus (codeAny_mono (h ((hp.push (PySem.W.kdv_tup us)).push (eO (He.ga X.K Cn) hp.objs.size none)) (hp.objs.size + 1) (fun b o z => Heap.get?_push_of_some _ (Heap.get?_push_of_some _ z)) hni hbs (by heap_get) ?_) fun r s' z => ?_))
  · show hp.objs.size ≤ ((hp.push _).push _).objs.size
    rw [Heap.size_push, Heap.size_push]
    omega
  · exact z
theorem relO_err {v : V} {u : Value} {tk : Tok} (rv : RelV v u) (hpc : pn ≠ ("code" : Str)) (f : Str) : RelO ([(("code" : Str), V.str lit), (pn, v)].lookup f) (if f = pn then some u else if f = "code" then some (.str lit tk) else none) := by
  by_cases h1 : f = pn
  · subst h1
    have h2 : (f == ("code" : Str)) = false := by simpa using hpc
    rw [if_pos rfl]
    simp only [List.lookup, h2, beq_self_eq_true]
    exact rv
  · rw [if_neg h1]
    have e1 : (f == pn) = false := by simpa using h1
    by_cases h2 : f = "code"
    · subst h2
      rw [if_pos rfl]
      simp only [List.lookup, beq_self_eq_true]
      exact ⟨tk, rfl⟩
    · rw [if_neg h2]
      have e2 : (f == ("code" : Str)) = false := by simpa using h2
      simp only [List.lookup, e1, e2]
      exact True.intro
theorem relO_err0 {tk : Tok} (f : Str) : RelO ([(("code" : Str), V.str lit)].lookup f) (if f = "code" then some (.str lit tk) else none) := by
  by_cases h2 : f = "code"
  · subst h2
    rw [if_pos rfl]
    simp only [List.lookup, beq_self_eq_true]
    exact ⟨tk, rfl⟩
  · rw [if_neg h2]
    have e2 : (f == ("code" : Str)) = false := by simpa using h2
    simp only [List.lookup, e2]
    exact True.intro
theorem cal_err1 (c : ErrC X.prog X.K (He.ga X.K Cn) B newId i bmB fI cda cc qual params body scope) (f : IsErr1 qual params body scope lit pn) (tk1 : PySem.W.takerIn X.K (He.ga X.K Cn) "code" = some none) (tk2 : PySem.W.takerIn X.K (He.ga X.K Cn) pn = some none) (hr : Room 1 X.A) : CalS X (He.ga X.K Cn) [] (spErr1 Cn lit pn) := by
  intro W tk pins σ H s F M Z us ws vs zs xs ys Q I mm kx r1 r2 hl a b h
  unfold spErr1 at h
  split at h
  · rename_i v
    obtain ⟨x1, rfl, rv⟩ : ∃ x1, vs = [x1] ∧ Rep X.K (ak F M) H x1 v := by
      cases a with
      | cons q r => cases r; exact ⟨_, rfl, q⟩
    obtain ⟨u1, rfl, ru⟩ : ∃ u1, us = [u1] ∧ RelV x1 u1 := by
      cases r1 with
      | cons q r => cases r; exact ⟨_, rfl, q⟩
    have hw : ws = [] := by
      cases r2 with
      | nil => rfl
      | cons _ _ => cases hl
    subst hw
    obtain ⟨p0, p1, p2, p3, p4, q1, a0, a1, a2, a3, b0, b1, b2, b3, j, j2, rfl, ht⟩ := f.body_
    obtain ⟨ar, har, har2⟩ := f.hpa
    refine err_go (ks := []) (ws := []) c I (by rw [sizeLine_eq]; simp) fun h0 e k0 le hb he hs0 => ?_
    have bk0 : ∀ b o, X.base.get? b = some o → h0.get? b = some o := fun b o z => k0 _ _ (I.bk b o z)
    have hne : ∀ b o, s.heap.get? b = some o → b ≠ e := fun b o z => Nat.ne_of_lt (Nat.lt_of_lt_of_le (Heap.lt_size z) le)
    obtain ⟨hp, g, d, t, os⟩ := s
    refine einit1 (t := t) c tk1 tk2 f.hpn f.hdb f.hkp I.ok.mod bk0 hb he ((hr.make (k := 0) _ _ _).depth) (fun nm kV doc pm an ct => f.b1 nm kV doc pm an cda ct cc _ _) har har2 f.hks f.hkc f.hka f.hcell f.hco f.hgen f.hk (fun L => ht L fI cda cc) fun h' t1 dx tkz tkc kk ee dl dn => ?_
    refine ⟨rfl, ?_⟩
    exact lay_exn (s := ⟨hp, g, d, t, os⟩) I mm (fun b o z => kk b o (hne b o z) (k0 b o z)) ee dn le (Nat.le_trans hs0 dl) (relO_err ru f.hpc) (.cons (.str _ f.okl) (.cons rv .nil)) h
  · exact h.elim
theorem cal_errK (c : ErrC X.prog X.K (He.ga X.K Cn) B newId i bmB fI cda cc qual params body scope) (f : IsErr1 qual params body scope lit pn) (tk1 : PySem.W.takerIn X.K (He.ga X.K Cn) "code" = some none) (tk2 : PySem.W.takerIn X.K (He.ga X.K Cn) pn = some none) (hr : Room 1 X.A) : CalS X (He.ga X.K Cn) [pn] (spErrK Cn lit pn) := by
  intro W tk pins σ H s F M Z us ws vs zs xs ys Q I mm kx r1 r2 hl a b h
  unfold spErrK at h
  split at h
  · rename_i v
    obtain ⟨x1, rfl, rv⟩ : ∃ x1, zs = [x1] ∧ Rep X.K (ak F M) H x1 v := by
      cases b with
      | cons q r => cases r; exact ⟨_, rfl, q⟩
    obtain ⟨u1, rfl, ru⟩ : ∃ u1, ws = [u1] ∧ RelV x1 u1 := by
      cases r2 with
      | cons q r => cases r; exact ⟨_, rfl, q⟩
    have hv : vs = [] := by
      cases a with
      | nil => rfl
    subst hv
    have hw : us = [] := by
      cases r1 with
      | nil => rfl
    subst hw
    obtain ⟨p0, p1, p2, p3, p4, q1, a0, a1, a2, a3, b0, b1, b2, b3, j, j2, rfl, ht⟩ := f.body_
    obtain ⟨ar, har, har2⟩ := f.hpa
    refine err_go (ks := [pn]) (ws := [u1]) c I (by rw [sizeLine_eq]; simp) fun h0 e k0 le hb he hs0 => ?_
    have bk0 : ∀ b o, X.base.get? b = some o → h0.get? b = some o := fun b o z => k0 _ _ (I.bk b o z)
    have hne : ∀ b o, s.heap.get? b = some o → b ≠ e := fun b o z => Nat.ne_of_lt (Nat.lt_of_lt_of_le (Heap.lt_size z) le)
    obtain ⟨hp, g, d, t, os⟩ := s
    refine einit1 (t := t) c tk1 tk2 f.hpn f.hdb f.hkp I.ok.mod bk0 hb he ((hr.make (k := 0) _ _ _).depth) (fun nm kV doc pm an ct => f.bk nm kV doc pm an cda ct cc _ _) har har2 f.hks f.hkc f.hka f.hcell f.hco f.hgen f.hk (fun L => ht L fI cda cc) fun h' t1 dx tkz tkc kk ee dl dn => ?_
    refine ⟨rfl, ?_⟩
    exact lay_exn (s := ⟨hp, g, d, t, os⟩) I mm (fun b o z => kk b o (hne b o z) (k0 b o z)) ee dn le (Nat.le_trans hs0 dl) (relO_err ru f.hpc) (.cons (.str _ f.okl) (.cons rv .nil)) h
  · exact h.elim
theorem cal_err0 (c : ErrC X.prog X.K (He.ga X.K Cn) B newId i bmB fI cda cc qual params body scope) (f : IsErr0 qual params body scope lit) (tk1 : PySem.W.takerIn X.K (He.ga X.K Cn) "code" = some none) (hr : Room 1 X.A) : CalS X (He.ga X.K Cn) [] (spErr0 Cn lit) := by
  intro W tk pins σ H s F M Z us ws vs zs xs ys Q I mm kx r1 r2 hl a b h
  unfold spErr0 at h
  split at h
  · have hv : vs = [] := by
      cases a with
      | nil => rfl
    subst hv
    have hu : us = [] := by
      cases r1 with
      | nil => rfl
    subst hu
    have hw : ws = [] := by
      cases r2 with
      | nil => rfl
      | cons _ _ => cases hl
    subst hw
    obtain ⟨p0, p1, p2, p3, p4, q1, a0, a1, a2, a3, j, j2, rfl, ht⟩ := f.body_
    obtain ⟨ar, har, har2⟩ := f.hpa
    refine err_go (ks := []) (ws := []) c I (by rw [sizeLine_eq]; simp) fun h0 e k0 le hb he hs0 => ?_
    have bk0 : ∀ b o, X.base.get? b = some o → h0.get? b = some o := fun b o z => k0 _ _ (I.bk b o z)
    have hne : ∀ b o, s.heap.get? b = some o → b ≠ e := fun b o z => Nat.ne_of_lt (Nat.lt_of_lt_of_le (Heap.lt_size z) le)
    obtain ⟨hp, g, d, t, os⟩ := s
    refine einit0 (t := t) c tk1 I.ok.mod bk0 hb he ((hr.make (k := 0) _ _ _).depth) (fun nm kV doc pm an ct => f.b0 nm kV doc pm an cda ct cc _) har har2 f.hks f.hkc f.hka f.hcell f.hco f.hgen f.hk (fun L => ht L fI cda cc) fun h' t1 dx tkz tkc kk ee dl dn => ?_
    refine ⟨rfl, ?_⟩
    exact lay_exn (s := ⟨hp, g, d, t, os⟩) I mm (fun b o z => kk b o (hne b o z) (k0 b o z)) ee dn le (Nat.le_trans hs0 dl) relO_err0 (.cons (.str _ f.okl) .nil) h
  · exact h.elim
end
end L2.Dl

namespace L2.Dl
open PySem PySem.Spec PyProof.Rows
/-! ### kinds -/
/-- a class: a built-in one, one of the text -/
inductive KD where
  | ty (n : String) | own (C : Str)
instance kdEq : DecidableEq KD := fun a b => match a, b with
  | .ty x, .ty y => if h : x = y then isTrue (by rw [h]) else isFalse (fun e => h (KD.ty.inj e))
  | .own x, .own y => if h : x = y then isTrue (by rw [h]) else isFalse (fun e => h (KD.own.inj e))
  | .ty _, .own _ => isFalse (fun e => nomatch e)
  | .own _, .ty _ => isFalse (fun e => nomatch e)
def kdV (K : PySem.W.Frag) : KD → Value
  | .ty n => .type n
  | .own C => .ref (He.ga K C)
/-- what is asked of a class whose instances isinstance looks at -/
structure InsF (K : PySem.W.Frag) (C : Addr) : Prop where
  cl : Cls K C
  ha : PySem.W.findIn K (.ref C) "__class__" = some (some (.builtin "object.__class__"))
  hn : PySem.W.specialIn K (.builtin "object.__class__") "__get__" = some (some (.builtin "getset_descriptor.__get__"))
  ht : PySem.W.takesIn K (.builtin "object.__class__") = some true
  hm : PySem.W.mroIn K C (.type "object") = some true
structure ExcF (K : PySem.W.Frag) (C : Addr) : Prop where
  is_ : (PySem.W.clsIn K C).isSome = true
  ga : PySem.W.findIn K (.ref C) "__getattribute__" = some (some (.builtin "BaseException.__getattribute__"))
  gg : PySem.W.findIn K (.ref C) "__getattr__" = some none
  exC : PySem.W.subIn K (.ref C) (.type "BaseException") = some true
  hd : PySem.W.hasDictIn K C = true
  ha : PySem.W.findIn K (.ref C) "__class__" = some (some (.builtin "object.__class__"))
  hn : PySem.W.specialIn K (.builtin "object.__class__") "__get__" = some (some (.builtin "getset_descriptor.__get__"))
  ht : PySem.W.takesIn K (.builtin "object.__class__") = some true
  hm : PySem.W.mroIn K C (.type "object") = some true
  ty : PySem.W.typeIn K (.ref C) = some (.type "type")
  kp : PySem.W.keepIn K (.ref C) = true
def optB (a : Option Bool) : Bool := match a with | some b => b | none => false
theorem optB_ok {a : Option Bool} (h : optB a = true) : a = some true := by
  cases a with
  | none => cases h
  | some b => cases b with
    | true => rfl
    | false => cases h
def classB (K : PySem.W.Frag) (C : Addr) : Bool := He.eqO (PySem.W.findIn K (.ref C) "__class__") (some (some (.builtin "object.__class__"))) && (He.eqO (PySem.W.specialIn K (.builtin "object.__class__") "__get__") (some (some (.builtin "getset_descriptor.__get__"))) && (optB (PySem.W.takesIn K (.builtin "object.__class__")) && optB (PySem.W.mroIn K C (.type "object"))))
def insB (C : Str) (K : PySem.W.Frag) : Bool := (He.Fa.cls C).ok K && classB K (He.ga K C)
def excB (C : Str) (K : PySem.W.Frag) : Bool := (PySem.W.clsIn K (He.ga K C)).isSome && (He.eqO (PySem.W.findIn K (.ref (He.ga K C)) "__getattribute__") (some (some (.builtin "BaseException.__getattribute__"))) && (He.eqO (PySem.W.findIn K (.ref (He.ga K C)) "__getattr__") (some none) && (optB (PySem.W.subIn K (.ref (He.ga K C)) (.type "BaseException")) && (PySem.W.hasDictIn K (He.ga K C) && (classB K (He.ga K C) &&
  (decide (PySem.W.typeIn K (.ref (He.ga K C)) = some (.type "type")) && PySem.W.keepIn K (.ref (He.ga K C))))))))
theorem classB_ok {K : PySem.W.Frag} {C : Addr} (h : classB K C = true) : PySem.W.findIn K (.ref C) "__class__" = some (some (.builtin "object.__class__")) ∧ PySem.W.specialIn K (.builtin "object.__class__") "__get__" = some (some (.builtin "getset_descriptor.__get__")) ∧ PySem.W.takesIn K (.builtin "object.__class__") = some true ∧ PySem.W.mroIn K C (.type "object") = some true := by
  obtain ⟨h1, h⟩ := He.ba h
  obtain ⟨h2, h⟩ := He.ba h
  obtain ⟨h3, h4⟩ := He.ba h
  exact ⟨He.eqO_ok h1, He.eqO_ok h2, optB_ok h3, optB_ok h4⟩
theorem insB_ok {K : PySem.W.Frag} {C : Str} (h : insB C K = true) : InsF K (He.ga K C) := by
  obtain ⟨h1, h⟩ := He.ba h
  obtain ⟨a, b, c, d⟩ := classB_ok h
  exact ⟨He.cls_ok h1, a, b, c, d⟩
theorem excB_ok {K : PySem.W.Frag} {C : Str} (h : excB C K = true) : ExcF K (He.ga K C) := by
  obtain ⟨h1, h⟩ := He.ba h
  obtain ⟨h2, h⟩ := He.ba h
  obtain ⟨h3, h⟩ := He.ba h
  obtain ⟨h4, h⟩ := He.ba h
  obtain ⟨h5, h⟩ := He.ba h
  obtain ⟨h6, h⟩ := He.ba h
  obtain ⟨h7, h8⟩ := He.ba h
  obtain ⟨a, b, c, d⟩ := classB_ok h6
  exact ⟨h1, He.eqO_ok h2, He.eqO_ok h3, optB_ok h4, h5, a, b, c, d, of_decide_eq_true h7, h8⟩
/-! ### isinstance -/
section
variable {X : Cx}
/-- of an error -/
def rIsX (K : PySem.W.Frag) : List V → Hp → VK → Prop := fun xs H Q => ∃ (a d : Addr) (oe : Obj) (C : Addr) (fs : List (Str × V)) (c : V) (cv : Value) (b : Bool), xs = [.ref a, c] ∧ ClsV c cv ∧ H a = some (.frz oe (.own a)) ∧ Zc (.ref C) (some d) oe ∧ (∃ vs, oe.data = .fields vs) ∧ H d = some (.xd fs) ∧ ExcF K C ∧ PySem.W.kitOne K (.ref C) cv = some b ∧ Q (.bl b) H
theorem exn_inst {pins : List (Addr × Obj)} {σ : L2.St} {H : Hp} {s : Shared} {a d C : Addr} {oe : Obj} {fs : List (Str × V)} (I : Inv X pins σ H s) (ha : H a = some (.frz oe (.own a))) (hz : Zc (.ref C) (some d) oe) (hf : ∃ vs, oe.data = .fields vs) (hd : H d = some (.xd fs)) :
    ∃ (od : Obj) (mA : Str → Option Value), PySem.W.InstAt s.heap a oe C (some od) ∧ (∀ n, PySem.W.lookIn n od = some (mA n)) ∧ ∀ f, RelO (fs.lookup f) (mA f) := by
  obtain ⟨e1, _⟩ := I.hok a _ ha
  obtain ⟨vs, hv⟩ := hf
  obtain ⟨mA, hns, hr⟩ := (show ObjOk X.prog X.w H s.heap d (.xd fs) from I.hok d _ hd)
  obtain ⟨od, ho, hl⟩ := lookIn_ns hns
  exact ⟨od, mA, ⟨e1, hz.1, by unfold PySem.W.notCls; rw [hv] <;> rfl, by rw [hz.2]; exact ho⟩, hl, hr⟩
theorem call_isX : CallR X (.builtin "isinstance") (rIsX X.K) := by
  intro pins s σ H xs us Q I r h
  obtain ⟨a, d, oe, C, fs, c, cv, b, rfl, k, ha, hz, hf, hd, ef, e, q⟩ := h
  obtain ⟨u1, u2, rfl, r1, r2⟩ := vals2 r
  have e2 := k.eq r2
  subst e2
  cases (show u1 = Value.ref a from r1)
  obtain ⟨od, mA, J, _⟩ := exn_inst I ha hz hf hd
  exact PySem.W.kia_one (PySem.W.kitx_exc ef.is_ ef.ga ef.gg ef.exC ef.ha ef.hn ef.ht ef.hm) I.kIn J e (fun z => nomatch z) fun tk => ⟨.bl b, H, I.tok tk, rfl, q⟩
/-- the kind of a value -/
def kdX (os es : List Str) : D → MM → Option KD
  | .obj C _, _ => if C ∈ os then some (.own C) else none
  | .exn C _, _ => if C ∈ es then some (.own C) else none
  | .ref a, M => (match M.lookup a with | some (.obj C _) => if C ∈ os then some (.own C) else none | some (.lst _) => some (.ty "list") | _ => none)
  | .lst _, _ => some (.ty "list")
  | .tup _, _ => some (.ty "tuple")
  | .non, _ => some (.ty "NoneType")
  | .bl _, _ => some (.ty "bool")
  | .int _, _ => some (.ty "int")
  | .str _, _ => some (.ty "str")
  | _, _ => none
@[simp] theorem kdX_obj (os es : List Str) (C : Str) (fs : List (Str × D)) (M : MM) : kdX os es (.obj C fs) M = if C ∈ os then some (.own C) else none := rfl
@[simp] theorem kdX_exn (os es : List Str) (C : Str) (fs : List (Str × D)) (M : MM) : kdX os es (.exn C fs) M = if C ∈ es then some (.own C) else none := rfl
@[simp] theorem kdX_lst (os es : List Str) (xs : List D) (M : MM) : kdX os es (.lst xs) M = some (.ty "list") := rfl
@[simp] theorem kdX_tup (os es : List Str) (xs : List D) (M : MM) : kdX os es (.tup xs) M = some (.ty "tuple") := rfl
@[simp] theorem kdX_non (os es : List Str) (M : MM) : kdX os es .non M = some (.ty "NoneType") := rfl
@[simp] theorem kdX_bl (os es : List Str) (b : Bool) (M : MM) : kdX os es (.bl b) M = some (.ty "bool") := rfl
@[simp] theorem kdX_int (os es : List Str) (b : Int) (M : MM) : kdX os es (.int b) M = some (.ty "int") := rfl
@[simp] theorem kdX_str (os es : List Str) (b : Str) (M : MM) : kdX os es (.str b) M = some (.ty "str") := rfl
@[simp] theorem kdX_ref (os es : List Str) (a : Addr) (M : MM) : kdX os es (.ref a) M = (match M.lookup a with | some (.obj C _) => if C ∈ os then some (.own C) else none | some (.lst _) => some (.ty "list") | _ => none) := rfl
@[simp] def kdC : D → Option KD
  | .ty n => some (.ty n)
  | .glo C => some (.own C)
  | _ => none
structure IsOk (K : PySem.W.Frag) (os es : List Str) (tab : KD → KD → Option Bool) : Prop where
  kit : ∀ a c b, tab a c = some b → PySem.W.kitOne K (kdV K a) (kdV K c) = some b
  os_ : ∀ C ∈ os, InsF K (He.ga K C)
  es_ : ∀ C ∈ es, ExcF K (He.ga K C)
def dIsiX (os es : List Str) (tab : KD → KD → Option Bool) : RCD := fun xs M Q => match xs with
  | [x, c] => optK (kdX os es x M) fun a => optK (kdC c) fun k => optK (tab a k) fun b => Q (.bl b) M
  | _ => False
@[simp ↓] theorem dIsiX_eq (os es : List Str) (tab : KD → KD → Option Bool) : ∀ xs M Q, dIsiX os es tab xs M Q = (match xs with
  | [x, c] => optK (kdX os es x M) fun a => optK (kdC c) fun k => optK (tab a k) fun b => Q (.bl b) M
  | _ => False) := fun _ _ _ => rfl
theorem optK_ex {α : Type} {o : Option α} {k : α → Prop} (h : optK o k) : ∃ a, o = some a ∧ k a := by
  cases o with
  | none => exact h.elim
  | some a => exact ⟨a, rfl, h⟩
theorem kdC_at {K : PySem.W.Frag} {B : List Addr} {H : Hp} {v : V} {d : D} {c : KD} (r : Rep K B H v d) (h : kdC d = some c) : ClsV v (kdV K c) := by
  cases r with
  | ty n => cases h; exact .ty n
  | glo x => cases h; exact .own _
  | _ => cases h
theorem k_isiX {os es : List Str} {tab : KD → KD → Option Bool} (ok : IsOk X.K os es tab) : CallD X (.builtin "isinstance") (dIsiX os es tab) := by
  refine ⟨_, CallR.or call_isi call_isX, fun F H M vs xs Q QV mm rp hr k => ?_⟩
  match xs, hr with
  | [x, c], hr =>
    obtain ⟨v, w, rfl, r1, r2⟩ := repA2 rp
    obtain ⟨a, ha, hr⟩ := optK_ex (show optK (kdX os es x M) _ from hr)
    obtain ⟨k', hk, hr⟩ := optK_ex hr
    obtain ⟨b, hb, hr⟩ := optK_ex hr
    have hc := kdC_at r2 hk
    have hkit := ok.kit _ _ _ hb
    have fin := k.at mm (.bl b) hr
    have base : ∀ n : String, a = .ty n → TyX X.K H v (.type n) → _ := fun n e ty => by
      subst e
      exact (Or.inl ⟨v, w, .type n, kdV X.K k', b, rfl, hc, ty, hkit, fin⟩ : (rIsi X.K [v, w] H QV ∨ rIsX X.K [v, w] H QV))
    cases r1 with
    | non => cases ha; exact base _ rfl (.base .non)
    | bl y => cases ha; exact base _ rfl (.base (.bl y))
    | int y => cases ha; exact base _ rfl (.base (.int y))
    | str y => cases ha; exact base _ rfl (.base (.str y))
    | lst hx r => cases ha; exact base _ rfl (.base (.lst hx.2))
    | tup hx r =>
      cases ha
      refine base _ rfl ?_
      rcases hx with ⟨_, hx⟩ | ⟨o, its, m, hk, hc, _⟩
      · exact .base (.tup hx)
      · exact .kTuple hk hc
    | @obj p dx C vs fs h1 h2 r =>
      have ha : (if C ∈ os then some (KD.own C) else none) = some a := ha
      split at ha
      · rename_i hC
        cases ha
        have f := ok.os_ C hC
        exact .inl ⟨.ref p, w, .ref (He.ga X.K C), kdV X.K k', b, rfl, hc, .base (.ins h2 f.cl f.ha f.hn f.ht f.hm), hkit, fin⟩
      · cases ha
    | @exn p d C oe vs fs h1 h2 z f d1 d2 r =>
      have ha : (if C ∈ es then some (KD.own C) else none) = some a := ha
      split at ha
      · rename_i hC
        cases ha
        exact .inr ⟨p, d, oe, He.ga X.K C, vs, w, kdV X.K k', b, rfl, hc, h2, z, f, d2, ok.es_ C hC, hkit, fin⟩
      · cases ha
    | ref p =>
      have ha : (match M.lookup p with | some (.obj C _) => if C ∈ os then some (KD.own C) else none | some (.lst _) => some (KD.ty "list") | _ => none) = some a := ha
      split at ha
      · rename_i C fs e1
        obtain ⟨dx, ws, h1, h2⟩ := mm.get e1
        split at ha
        · rename_i hC
          cases ha
          have f := ok.os_ C hC
          exact .inl ⟨.ref p, w, .ref (He.ga X.K C), kdV X.K k', b, rfl, hc, .base (.ins h1 f.cl f.ha f.hn f.ht f.hm), hkit, fin⟩
        · cases ha
      · rename_i xs' e1
        cases ha
        obtain ⟨ws, h1, h2⟩ := mm.get e1
        exact base _ rfl (.base (.lst h1))
      · cases ha
    | _ => cases ha
/-! ### a field of an error -/
def XfOk (K : PySem.W.Frag) (Cs : List Str) (f : Str) : Prop := ∀ C ∈ Cs, ExcF K (He.ga K C) ∧ PySem.W.findIn K (.ref (He.ga K C)) f = some none
variable {e : Expr} {te : TD} {f : Str} {Cs : List Str} {pos : Pos}
def dXf (Cs : List Str) (f : Str) (te : TD) : TD := fun ds M Z Q => te ds M Z fun d M1 => match d with
  | .exn C fs => C ∈ Cs ∧ optK (fs.lookup f) fun v => Q v M1
  | _ => False
@[simp ↓] theorem dXf_eq (Cs : List Str) (f : Str) (te : TD) : ∀ ds M Z Q, dXf Cs f te ds M Z Q = (te ds M Z fun d M1 => match d with
  | .exn C fs => C ∈ Cs ∧ optK (fs.lookup f) fun v => Q v M1
  | _ => False) := fun _ _ _ _ => rfl
theorem d_xf (hC : XfOk X.K Cs f) (he : PD X e te) (hb : attributeBase e f X.env (eval e X.env) = eval e X.env := by rfl) : PD X (.Attribute e f pos) (dXf Cs f te) := by
  refine ⟨fun W tks F pins s σ H ds M Z Q I hs ht => ?_⟩
  refine attr_of hb (thn (he.run W tks F pins s σ H ds M Z _ I hs ht) fun u s1 ⟨x, H1, d, M1, I1, rx, st, mm, rp, q⟩ => ?_)
  cases rp with
  | @exn p d C oe vs fs h1 h2 z zf d1 d2 r =>
    have q : C ∈ Cs ∧ optK (fs.lookup f) fun v => Q v M1 := q
    obtain ⟨hm, q⟩ := q
    obtain ⟨w, hw, q⟩ := optK_ex q
    obtain rfl : u = Value.ref p := rx
    obtain ⟨ef, hno⟩ := hC C hm
    obtain ⟨od, mA, J, hl, hr⟩ := exn_inst I1 h2 z zf d2
    obtain ⟨v, hv, rv⟩ := r.look hw
    obtain ⟨u, hu, ru⟩ := RelO.some_of (v := v) (o := mA f) (by rw [← hv]; exact hr f)
    exact HandSPX.exc_get I1.kIn J ef.ga ef.gg ef.exC (PySem.W.findObj_own ef.hd hno rfl (by rw [hl, hu])) (handed_of ru) ⟨v, H1, w, M1, I1.tok _, ru, st, mm, rv, q⟩
  | _ => exact (show False from q).elim
end
/-! ### the class of an error, by a check -/
def errB (C : Str) (B newId i : String) (bmB : List Value) (file : Str) (fs : List Str) (K : PySem.W.Frag) : Bool :=
  PySem.W.excInitIn K (He.ga K C) bmB newId && (PySem.W.excOver K (He.ga K C) bmB && ((He.Fa.meth C "__init__").ok K && ((match K.lookup (He.fAd K (C, some ("__init__" : Str))) with
    | some ⟨_, _, .func fd, _⟩ => (match fd.defaults, fd.code, fd.closure with
      | .none, .ref cda, [(_, cc)] => PySem.W.codeIn K (.ref cda) fd.qualname && ((match K.lookup cda with
          | some ⟨_, _, .fields vs, _⟩ => (match (vs[2]? : Option Value) with
            | some (.str f _) => f == file
            | _ => false)
          | _ => false) && (match K.lookup cc with
          | some ⟨_, _, .cell (some (.ref b)), _⟩ => decide (b = He.ga K C)
          | _ => false))
      | _, _, _ => false)
    | _ => false) && (optB (PySem.W.mroIn K (He.ga K C) (.ref (He.ga K C))) && (He.eqO (PySem.W.ks_superIn K (He.ga K C) (He.ga K C) "__init__") (some (some (.builtin i))) && (optB (PySem.W.subIn K (.ref (He.ga K C)) (.type B)) &&
    (He.eqO (PySem.W.findIn K (.ref (He.ga K C)) "__setattr__") (some (some (.builtin "object.__setattr__"))) && (excB C K && fs.all fun f => He.eqO (PySem.W.findIn K (.ref (He.ga K C)) f) (some none)))))))))
abbrev FnY : Type := Option (Str × Str × Arguments × FuncBody × Scope × Addr × List Str × Addr)
def fnY (K : PySem.W.Frag) (p : Str × Option Str) : FnY := match K.lookup (He.fAd K p) with
  | some ⟨_, _, .func fd, _⟩ => some (fd.name, fd.qualname, fd.params, fd.body, fd.scope, fd.globals, fd.closure.map (·.1), fd.builtins)
  | _ => none
def valY (d : He.DefD) : FnY := some (d.name, d.qual, d.params, .stmts d.body, d.scope, mainGlobals, ["__class__"], builtinsNs)
/-- for all of them -/
def supB (K : PySem.W.Frag) : Bool := He.eqO (PySem.W.nsIn K mainGlobals "super") (some none) && He.eqO (PySem.W.nsIn K cStatics "thirdparty.any") (some none)
/-- where the parts of such a class stand -/
def codeA (K : PySem.W.Frag) (f : Addr) : Addr := match K.lookup f with
  | some ⟨_, _, .func fd, _⟩ => (match fd.code with | .ref a => a | _ => 0)
  | _ => 0
def cellA (K : PySem.W.Frag) (f : Addr) : Addr := match K.lookup f with
  | some ⟨_, _, .func fd, _⟩ => (match fd.closure with | [(_, c)] => c | _ => 0)
  | _ => 0
structure PFile (P : Program) (file : Str) : Prop where
  file_ : ((P.main.file : Str) == file) = true
  sup : (P.main.scope.names.lookup ("super" : Str)).isSome = false
theorem errB_ok {P : Program} {K : PySem.W.Frag} {C : Str} {B newId i : String} {bmB : List Value} {file : Str} {fs : List Str} {d : He.DefD} (bx : BaseX B newId i bmB) (hP : PFile P file) (su : supB K = true) (hd : fnY K d.at_ = valY d) (ha : d.at_ = (C, some ("__init__" : Str)))
    (h : errB C B newId i bmB file fs K = true) : ErrC P K (He.ga K C) B newId i bmB (He.fAd K (C, some ("__init__" : Str))) (codeA K (He.fAd K (C, some ("__init__" : Str)))) (cellA K (He.fAd K (C, some ("__init__" : Str)))) d.qual d.params d.body d.scope ∧
      ExcF K (He.ga K C) ∧ ∀ f ∈ fs, PySem.W.findIn K (.ref (He.ga K C)) f = some none := by
  obtain ⟨h1, h⟩ := He.ba h
  obtain ⟨h2, h⟩ := He.ba h
  obtain ⟨h3, h⟩ := He.ba h
  obtain ⟨h4, h⟩ := He.ba h
  obtain ⟨h5, h⟩ := He.ba h
  obtain ⟨h6, h⟩ := He.ba h
  obtain ⟨h7, h⟩ := He.ba h
  obtain ⟨h8, h⟩ := He.ba h
  obtain ⟨h9, h10⟩ := He.ba h
  obtain ⟨su1, su2⟩ := He.ba su
  have me := He.meth_ok h3
  have ef := excB_ok h9
  rw [ha] at hd
  unfold fnY at hd
  unfold codeA cellA
  cases q : K.lookup (He.fAd K (C, some ("__init__" : Str))) with
  | none => rw [q] at hd; cases hd
  | some o =>
    obtain ⟨oc, od, dt, osl⟩ := o
    rw [q] at hd h4
    cases dt with
    | func fd =>
      obtain ⟨n1, n2, n3, n4, n5, n6, n7, n8, n9, n10, n11, n12, n13, n14, n15⟩ := fd
      have e2 : (some (n1, n2, n3, n4, n5, n6, n7.map (·.1), n15) : FnY) = (some (d.name, d.qual, d.params, .stmts d.body, d.scope, mainGlobals, ["__class__"], builtinsNs) : FnY) := hd
      simp only [Option.some.injEq, Prod.mk.injEq] at e2
      obtain ⟨z1, z2, z3, z4, z5, z6, z7, z8⟩ := e2
      subst z1 z2 z3 z4 z5 z6 z8
      dsimp only at h4
      split at h4
      · rename_i cda nn cc
        simp only [List.map_cons, List.map_nil, List.cons.injEq, and_true] at z7
        subst z7
        obtain ⟨k1, h4⟩ := He.ba h4
        obtain ⟨k2, k3⟩ := He.ba h4
        refine ⟨{ bx := bx, mkx := h1, ov := h2, ini := me.at_, fn := me.fn, fd := ⟨oc, od, d.name, n9, n10, n11, n12, n14, osl, q⟩, cd := k1, co := ?_, ce := ?_, mr := optB_ok h5, su := He.eqO_ok su1, tp := He.eqO_ok su2, si := He.eqO_ok h6, sb := optB_ok h7, sa := He.eqO_ok h8, hd := ef.hd, cl := ef.is_, ts := hP.sup }, ef, fun f hf => He.eqO_ok (List.all_eq_true.mp h10 f hf)⟩
        · cases qc : K.lookup cda with
          | none => rw [qc] at k2; cases k2
          | some oo =>
            obtain ⟨ca, cb, cdt, cs⟩ := oo
            rw [qc] at k2
            cases cdt with
            | fields vs =>
              dsimp only at k2
              split at k2
              · rename_i f tf ev
                have ef2 : f = file := eq_of_beq k2
                exact ⟨ca, cb, vs, cs, f, tf, rfl, ev, by rw [ef2]; exact hP.file_⟩
              · cases k2
            | _ => cases k2
        · cases qc : K.lookup cc with
          | none => rw [qc] at k3; cases k3
          | some oo =>
            obtain ⟨ca, cb, cdt, cs⟩ := oo
            rw [qc] at k3
            cases cdt with
            | cell v =>
              cases v with
              | none => cases k3
              | some v =>
                cases v with
                | ref b =>
                  have eb : b = He.ga K C := of_decide_eq_true k3
                  rw [eb]
                  exact ⟨ca, cb, cs, rfl⟩
                | _ => cases k3
            | _ => cases k3
      · cases h4
    | _ => cases h4
theorem taker_none {K : PySem.W.Frag} {C : Addr} {f : Str} (h : PySem.W.findIn K (.ref C) f = some none) : PySem.W.takerIn K C f = some none := by
  unfold PySem.W.takerIn
  rw [h]
  rfl
/-! ### the hook -/
def asY (g : Addr → Option Obj) : Nat → List Addr
  | 0 => [mainGlobals, cStatics]
  | n + 1 => He.growD g (asY g n)
/-- cStatics itself is looked at, what it names is not -/
def asZ (g : Addr → Option Obj) (n : Nat) : List Addr := cStatics :: He.asD g n
abbrev AlY : Type := He.AlD × Bool × List FnY
def obsY (fa : List He.Fa) (fn : List He.DefD) (fx : List (PySem.W.Frag → Bool)) (fe : List He.DefD) (K : PySem.W.Frag) : AlY := (He.obsD fa fn K, fx.all (fun f => f K), fe.map fun d => fnY K d.at_)
def vaY (fn fe : List He.DefD) : AlY := (He.valD fn, true, fe.map valY)
def SaysY (fa : List He.Fa) (fn : List He.DefD) (fx : List (PySem.W.Frag → Bool)) (fe : List He.DefD) (K : PySem.W.Frag) : Prop := obsY fa fn fx fe K = vaY fn fe
def obsYG (n : Nat) (fa : List He.Fa) (fn : List He.DefD) (fx : List (PySem.W.Frag → Bool)) (fe : List He.DefD) (g : Addr → Option Obj) : AlY := obsY fa fn fx fe (He.frG g (asZ g n))
def hookY (n : Nat) (fa : List He.Fa) (fn : List He.DefD) (fx : List (PySem.W.Frag → Bool)) (fe : List He.DefD) : PySem.W.Hook where
  α := AlY
  obs := fun s => obsYG n fa fn fx fe s.heap.get?
  val := fun _ => vaY fn fe
  says := fun _ h => ∃ K : PySem.W.Frag, K.In h ∧ SaysY fa fn fx fe K
  of := fun _ _ e => ⟨_, He.frG_in, e⟩
  keeps := fun _ _ _ ⟨K, hK, c⟩ k => ⟨K, PySem.W.Frag.In.keeps hK k, c⟩
theorem obsYG_eq {n : Nat} {fa : List He.Fa} {fn : List He.DefD} {fx : List (PySem.W.Frag → Bool)} {fe : List He.DefD} {g : Addr → Option Obj} {s : Shared} (h : ∀ a, g a = s.heap.get? a) : obsYG n fa fn fx fe g = (hookY n fa fn fx fe).obs s := by
  have e : g = s.heap.get? := funext h
  rw [e] <;> rfl
structure TopY (fa : List He.Fa) (fn : List He.DefD) (fx : List (PySem.W.Frag → Bool)) (fe : List He.DefD) (file : Str) (P : Program) (K : PySem.W.Frag) (mg : Str → Option Value) : Prop extends Tops fa fn K mg where
  all_ : fx.all (fun f => f K) = true
  fe_ : (fe.map fun d => fnY K d.at_) = fe.map valY
  pf : PFile P file
theorem TopY.fx_ {fa : List He.Fa} {fn : List He.DefD} {fx : List (PySem.W.Frag → Bool)} {fe : List He.DefD} {file : Str} {P : Program} {K : PySem.W.Frag} {mg : Str → Option Value} (T : TopY fa fn fx fe file P K mg) (i : Nat) {f : PySem.W.Frag → Bool} (h : fx[i]? = some f := by rfl) : f K = true := List.all_eq_true.mp T.all_ f (List.mem_of_getElem? h)
theorem TopY.fe_at {fa : List He.Fa} {fn : List He.DefD} {fx : List (PySem.W.Frag → Bool)} {fe : List He.DefD} {file : Str} {P : Program} {K : PySem.W.Frag} {mg : Str → Option Value} (T : TopY fa fn fx fe file P K mg) (i : Nat) {d : He.DefD} (h : fe[i]? = some d := by rfl) : fnY K d.at_ = valY d := by
  have e2 : (fe.map fun d => fnY K d.at_)[i]? = (fe.map valY)[i]? := by rw [T.fe_]
  rw [List.getElem?_map, List.getElem?_map, h] at e2
  exact Option.some.inj e2
theorem topY_of {fa : List He.Fa} {fn : List He.DefD} {fx : List (PySem.W.Frag → Bool)} {fe : List He.DefD} {file : Str} {P : Program} {K : PySem.W.Frag} {h : Heap} {mg : Str → Option Value} (hP : PFile P file) (KX : K.In h) (G : h.Ns mainGlobals mg) (c : SaysY fa fn fx fe K) : TopY fa fn fx fe file P K mg :=
  { tops_of KX G (congrArg (fun z : AlY => z.1) c : He.SaysD fa fn K) with all_ := congrArg (fun z : AlY => z.2.1) c, fe_ := congrArg (fun z : AlY => z.2.2) c, pf := hP }
end L2.Dl

namespace L2.Dl
open PySem PySem.Spec PyProof.Rows
/-! ### tables for isinstance -/
theorem bt_ValueError : bootBuiltins "ValueError" = some (.type "ValueError") := by decide +kernel
theorem bt_LookupError : bootBuiltins "LookupError" = some (.type "LookupError") := by decide +kernel
theorem bt_IndexError : bootBuiltins "IndexError" = some (.type "IndexError") := by decide +kernel
def mroT (ms : List (KD × List KD)) (cs : List KD) : KD → KD → Option Bool := fun a c => if c ∈ cs then (ms.lookup a).map fun m => decide (c ∈ m) else none
def kdAll (K : PySem.W.Frag) (cs : List KD) : List (KD × Value) := cs.map fun c => (c, kdV K c)
def mroB (ms : List (KD × List KD)) (cs : List KD) (K : PySem.W.Frag) : Bool := ms.all fun p => (kdAll K cs).all fun c => decide (PySem.W.kitOne K (kdV K p.1) c.2 = some (decide (c.1 ∈ p.2)))
theorem isOk_of {K : PySem.W.Frag} {ms : List (KD × List KD)} {cs : List KD} {os es : List Str} (h : mroB ms cs K = true) (ho : ∀ C ∈ os, InsF K (He.ga K C)) (he : ∀ C ∈ es, ExcF K (He.ga K C)) : IsOk K os es (mroT ms cs) := by
  refine ⟨fun a c b e => ?_, ho, he⟩
  unfold mroT at e
  split at e
  · rename_i hc
    cases q : ms.lookup a with
    | none => rw [q] at e; cases e
    | some m =>
      rw [q] at e
      have hm : (a, m) ∈ ms := by
        have : ∀ l : List (KD × List KD), l.lookup a = some m → (a, m) ∈ l := by
          intro l
          induction l with
          | nil => intro h; cases h
          | cons p r ih =>
            intro h
            obtain ⟨x, y⟩ := p
            by_cases hx : a = x
            · subst hx
              simp [List.lookup] at h
              subst h
              exact List.mem_cons_self
            · have e : (a == x) = false := by simpa using hx
              simp only [List.lookup, e] at h
              exact List.mem_cons_of_mem _ (ih h)
        exact this ms q
      have h1 := List.all_eq_true.mp h (a, m) hm
      have h2 := List.all_eq_true.mp h1 (c, kdV K c) (List.mem_map.mpr ⟨c, hc, rfl⟩)
      have h3 := of_decide_eq_true h2
      have e : decide (c ∈ m) = b := by simpa using e
      rw [← e]
      exact h3
  · cases e
end L2.Dl

namespace L2.Dl
open PySem PySem.Spec PyProof.Rows
/-! ### equality of data -/
theorem eqv_self {d : D} {p : PyData} (h : toPy d = some p) : PyData.eqv p p = true := by
  have all : ∀ n : Nat, (∀ d p, sizeOf d < n → toPy d = some p → PyData.eqv p p = true) := by
    intro n
    induction n with
    | zero => intro d p h; exact absurd h (Nat.not_lt_zero _)
    | succ n ih =>
      have lst : ∀ (xs : List D) (qs : List PyData), sizeOf xs < n + 1 → toPyL xs = some qs → PyData.eqvAll qs qs = true := by
        intro xs
        induction xs with
        | nil => intro qs _ h; cases h; rfl
        | cons x r ihr =>
          intro qs hl h
          unfold toPyL at h
          cases e1 : toPy x with
          | none => rw [e1] at h; cases h
          | some a =>
            cases e2 : toPyL r with
            | none => rw [e1, e2] at h; cases h
            | some b =>
              rw [e1, e2] at h
              cases h
              simp only [List.cons.sizeOf_spec] at hl
              have h1 := ih x a (by omega) e1
              have h2 := ihr b (by omega) e2
              rw [PyData.eqvAll, h1, h2]
              rfl
      intro d p hd h
      cases d with
      | non => cases h; rfl
      | bl b => cases h; simp [PyData.eqv]
      | int b => cases h; simp [PyData.eqv]
      | str b => cases h; simp [PyData.eqv]
      | lst xs =>
        simp only [toPy, Option.map_eq_some_iff] at h
        obtain ⟨qs, e, rfl⟩ := h
        simp only [D.lst.sizeOf_spec] at hd
        have := lst xs qs (by omega) e
        rw [PyData.eqv]
        exact this
      | tup xs =>
        simp only [toPy, Option.map_eq_some_iff] at h
        obtain ⟨qs, e, rfl⟩ := h
        simp only [D.tup.sizeOf_spec] at hd
        have := lst xs qs (by omega) e
        rw [PyData.eqv]
        exact this
      | _ => cases h
  exact all (sizeOf d + 1) d p (Nat.lt_succ_self _) h
theorem eqD_self {d : D} (h : okD d = true) : eqD d d = true := by
  obtain ⟨p, e, _⟩ := okD_some h
  unfold eqD
  rw [e]
  exact eqv_self e
@[simp] theorem toPyL_map {α : Type} (f : α → D) (g : α → PyData) (h : ∀ x, toPy (f x) = some (g x)) : ∀ l : List α, toPyL (l.map f) = some (l.map g)
  | [] => rfl
  | x :: r => by
    show (match toPy (f x), toPyL (r.map f) with | some p, some q => some (p :: q) | _, _ => none) = _
    rw [h x, toPyL_map f g h r]
    rfl
theorem okD_bools (l : List Bool) : okD (.lst (l.map D.bl)) = true := by
  unfold okD
  have e : toPy (.lst (l.map D.bl)) = some (.list (l.map PyData.bool)) := by
    show (toPyL (l.map D.bl)).map PyData.list = _
    rw [toPyL_map D.bl PyData.bool fun _ => rfl]
    rfl
  rw [e]
  have hd : ∀ m : List Bool, PyData.depthAll (m.map PyData.bool) = 0 := by
    intro m
    induction m with
    | nil => rfl
    | cons x r ih => show max (PyData.depth (.bool x)) (PyData.depthAll (r.map PyData.bool)) = 0; rw [ih]; rfl
  have h2 : (PyData.list (l.map PyData.bool)).depth = 1 := by show PyData.depthAll (l.map PyData.bool) + 1 = 1; rw [hd]
  show decide ((PyData.list (l.map PyData.bool)).depth ≤ 64) = true
  rw [h2]
  rfl
theorem okD_plain {n : Nat} {d : D} (h : plainD n d = true) (hn : n ≤ 63) : okD d = true := by
  obtain ⟨p, e, hd⟩ := plainD_ok h
  unfold okD
  rw [e]
  exact decide_eq_true (by omega)
end L2.Dl

namespace L2.Dl
open PySem PySem.Spec PyProof.Rows
def top (i : Nat) : Stmt := PySem.Challenge.pw_cardsapart_k01_errors_by_themselves.main.body.getD i (.Pass ⟨0, 0, 0, 0⟩)
def inC (i j : Nat) : Stmt := match top i with | .ClassDef _ _ _ b _ _ _ _ _ _ _ => b.getD j (.Pass ⟨0, 0, 0, 0⟩) | _ => .Pass ⟨0, 0, 0, 0⟩
def errs : List Str := ["InvalidName", "InvalidWord", "InvalidStamp", "InvalidKey", "InvalidTest", "InvalidClause", "InvalidSources", "InvalidFate", "InvalidText", "InvalidPair", "InvalidLook", "InvalidDeed", "InvalidLimit", "DuplicateName", "DuplicateStamp", "DuplicateKey", "SameStamp", "SameCard", "OtherSources", "OtherDevice", "Stuck", "Full", "UnknownName", "UnknownPair", "UnknownNote", "NothingLeft"]
def flds : List Str := ["code", "name", "stamp", "given", "at", "word", "test", "fate", "line", "limit", "most", "looks"]
abbrev s_InvalidName : Stmt := inC 3 0
def d_InvalidName : He.DefD := ⟨("InvalidName", some "__init__"), "__init__", "InvalidName.__init__", defArgs s_InvalidName, defBody s_InvalidName, defScope s_InvalidName, [], []⟩
abbrev s_InvalidWord : Stmt := inC 4 0
def d_InvalidWord : He.DefD := ⟨("InvalidWord", some "__init__"), "__init__", "InvalidWord.__init__", defArgs s_InvalidWord, defBody s_InvalidWord, defScope s_InvalidWord, [], []⟩
abbrev s_InvalidStamp : Stmt := inC 5 0
def d_InvalidStamp : He.DefD := ⟨("InvalidStamp", some "__init__"), "__init__", "InvalidStamp.__init__", defArgs s_InvalidStamp, defBody s_InvalidStamp, defScope s_InvalidStamp, [], []⟩
abbrev s_InvalidKey : Stmt := inC 6 0
def d_InvalidKey : He.DefD := ⟨("InvalidKey", some "__init__"), "__init__", "InvalidKey.__init__", defArgs s_InvalidKey, defBody s_InvalidKey, defScope s_InvalidKey, [], []⟩
abbrev s_InvalidTest : Stmt := inC 7 0
def d_InvalidTest : He.DefD := ⟨("InvalidTest", some "__init__"), "__init__", "InvalidTest.__init__", defArgs s_InvalidTest, defBody s_InvalidTest, defScope s_InvalidTest, [], []⟩
abbrev s_InvalidClause : Stmt := inC 8 0
def d_InvalidClause : He.DefD := ⟨("InvalidClause", some "__init__"), "__init__", "InvalidClause.__init__", defArgs s_InvalidClause, defBody s_InvalidClause, defScope s_InvalidClause, [], []⟩
abbrev s_InvalidSources : Stmt := inC 9 0
def d_InvalidSources : He.DefD := ⟨("InvalidSources", some "__init__"), "__init__", "InvalidSources.__init__", defArgs s_InvalidSources, defBody s_InvalidSources, defScope s_InvalidSources, [], []⟩
abbrev s_InvalidFate : Stmt := inC 10 0
def d_InvalidFate : He.DefD := ⟨("InvalidFate", some "__init__"), "__init__", "InvalidFate.__init__", defArgs s_InvalidFate, defBody s_InvalidFate, defScope s_InvalidFate, [], []⟩
abbrev s_InvalidText : Stmt := inC 11 0
def d_InvalidText : He.DefD := ⟨("InvalidText", some "__init__"), "__init__", "InvalidText.__init__", defArgs s_InvalidText, defBody s_InvalidText, defScope s_InvalidText, [], []⟩
abbrev s_InvalidPair : Stmt := inC 12 0
def d_InvalidPair : He.DefD := ⟨("InvalidPair", some "__init__"), "__init__", "InvalidPair.__init__", defArgs s_InvalidPair, defBody s_InvalidPair, defScope s_InvalidPair, [], []⟩
abbrev s_InvalidLook : Stmt := inC 13 0
def d_InvalidLook : He.DefD := ⟨("InvalidLook", some "__init__"), "__init__", "InvalidLook.__init__", defArgs s_InvalidLook, defBody s_InvalidLook, defScope s_InvalidLook, [], []⟩
abbrev s_InvalidDeed : Stmt := inC 14 0
def d_InvalidDeed : He.DefD := ⟨("InvalidDeed", some "__init__"), "__init__", "InvalidDeed.__init__", defArgs s_InvalidDeed, defBody s_InvalidDeed, defScope s_InvalidDeed, [], []⟩
abbrev s_InvalidLimit : Stmt := inC 15 0
def d_InvalidLimit : He.DefD := ⟨("InvalidLimit", some "__init__"), "__init__", "InvalidLimit.__init__", defArgs s_InvalidLimit, defBody s_InvalidLimit, defScope s_InvalidLimit, [], []⟩
abbrev s_DuplicateName : Stmt := inC 16 0
def d_DuplicateName : He.DefD := ⟨("DuplicateName", some "__init__"), "__init__", "DuplicateName.__init__", defArgs s_DuplicateName, defBody s_DuplicateName, defScope s_DuplicateName, [], []⟩
abbrev s_DuplicateStamp : Stmt := inC 17 0
def d_DuplicateStamp : He.DefD := ⟨("DuplicateStamp", some "__init__"), "__init__", "DuplicateStamp.__init__", defArgs s_DuplicateStamp, defBody s_DuplicateStamp, defScope s_DuplicateStamp, [], []⟩
abbrev s_DuplicateKey : Stmt := inC 18 0
def d_DuplicateKey : He.DefD := ⟨("DuplicateKey", some "__init__"), "__init__", "DuplicateKey.__init__", defArgs s_DuplicateKey, defBody s_DuplicateKey, defScope s_DuplicateKey, [], []⟩
abbrev s_SameStamp : Stmt := inC 19 0
def d_SameStamp : He.DefD := ⟨("SameStamp", some "__init__"), "__init__", "SameStamp.__init__", defArgs s_SameStamp, defBody s_SameStamp, defScope s_SameStamp, [], []⟩
abbrev s_SameCard : Stmt := inC 20 0
def d_SameCard : He.DefD := ⟨("SameCard", some "__init__"), "__init__", "SameCard.__init__", defArgs s_SameCard, defBody s_SameCard, defScope s_SameCard, [], []⟩
abbrev s_OtherSources : Stmt := inC 21 0
def d_OtherSources : He.DefD := ⟨("OtherSources", some "__init__"), "__init__", "OtherSources.__init__", defArgs s_OtherSources, defBody s_OtherSources, defScope s_OtherSources, [], []⟩
abbrev s_OtherDevice : Stmt := inC 22 0
def d_OtherDevice : He.DefD := ⟨("OtherDevice", some "__init__"), "__init__", "OtherDevice.__init__", defArgs s_OtherDevice, defBody s_OtherDevice, defScope s_OtherDevice, [], []⟩
abbrev s_Stuck : Stmt := inC 23 0
def d_Stuck : He.DefD := ⟨("Stuck", some "__init__"), "__init__", "Stuck.__init__", defArgs s_Stuck, defBody s_Stuck, defScope s_Stuck, [], []⟩
abbrev s_Full : Stmt := inC 24 0
def d_Full : He.DefD := ⟨("Full", some "__init__"), "__init__", "Full.__init__", defArgs s_Full, defBody s_Full, defScope s_Full, [], []⟩
abbrev s_UnknownName : Stmt := inC 25 0
def d_UnknownName : He.DefD := ⟨("UnknownName", some "__init__"), "__init__", "UnknownName.__init__", defArgs s_UnknownName, defBody s_UnknownName, defScope s_UnknownName, [], []⟩
abbrev s_UnknownPair : Stmt := inC 26 0
def d_UnknownPair : He.DefD := ⟨("UnknownPair", some "__init__"), "__init__", "UnknownPair.__init__", defArgs s_UnknownPair, defBody s_UnknownPair, defScope s_UnknownPair, [], []⟩
abbrev s_UnknownNote : Stmt := inC 27 0
def d_UnknownNote : He.DefD := ⟨("UnknownNote", some "__init__"), "__init__", "UnknownNote.__init__", defArgs s_UnknownNote, defBody s_UnknownNote, defScope s_UnknownNote, [], []⟩
abbrev s_NothingLeft : Stmt := inC 28 0
def d_NothingLeft : He.DefD := ⟨("NothingLeft", some "__init__"), "__init__", "NothingLeft.__init__", defArgs s_NothingLeft, defBody s_NothingLeft, defScope s_NothingLeft, [], []⟩
def isM : List (KD × List KD) := [(.ty "NoneType", []), (.ty "bool", []), (.ty "int", []), (.ty "str", []), (.ty "list", []), (.ty "tuple", []), (.own "InvalidName", [.own "InvalidName", .own "CardError", .ty "ValueError"]), (.own "InvalidWord", [.own "InvalidWord", .own "CardError", .ty "ValueError"]), (.own "InvalidStamp", [.own "InvalidStamp", .own "CardError", .ty "ValueError"]), (.own "InvalidKey", [.own "InvalidKey", .own "CardError", .ty "ValueError"]), (.own "InvalidTest", [.own "InvalidTest", .own "CardError", .ty "ValueError"]), (.own "InvalidClause", [.own "InvalidClause", .own "CardError", .ty "ValueError"]), (.own "InvalidSources", [.own "InvalidSources", .own "CardError", .ty "ValueError"]), (.own "InvalidFate", [.own "InvalidFate", .own "CardError", .ty "ValueError"]), (.own "InvalidText", [.own "InvalidText", .own "CardError", .ty "ValueError"]), (.own "InvalidPair", [.own "InvalidPair", .own "CardError", .ty "ValueError"]), (.own "InvalidLook", [.own "InvalidLook", .own "CardError", .ty "ValueError"]), (.own "InvalidDeed", [.own "InvalidDeed", .own "CardError", .ty "ValueError"]), (.own "InvalidLimit", [.own "InvalidLimit", .own "CardError", .ty "ValueError"]), (.own "DuplicateName", [.own "DuplicateName", .own "CardError", .ty "ValueError"]), (.own "DuplicateStamp", [.own "DuplicateStamp", .own "CardError", .ty "ValueError"]), (.own "DuplicateKey", [.own "DuplicateKey", .own "CardError", .ty "ValueError"]), (.own "SameStamp", [.own "SameStamp", .own "CardError", .ty "ValueError"]), (.own "SameCard", [.own "SameCard", .own "CardError", .ty "ValueError"]), (.own "OtherSources", [.own "OtherSources", .own "CardError", .ty "ValueError"]), (.own "OtherDevice", [.own "OtherDevice", .own "CardError", .ty "ValueError"]), (.own "Stuck", [.own "Stuck", .own "CardError", .ty "ValueError"]), (.own "Full", [.own "Full", .own "CardError", .ty "ValueError"]), (.own "UnknownName", [.own "UnknownName", .own "Missing", .ty "LookupError"]), (.own "UnknownPair", [.own "UnknownPair", .own "Missing", .ty "LookupError"]), (.own "UnknownNote", [.own "UnknownNote", .own "Missing", .ty "LookupError"]), (.own "NothingLeft", [.own "NothingLeft", .ty "IndexError", .ty "LookupError"])]
def isC : List KD := [.own "InvalidName", .own "InvalidWord", .own "InvalidStamp", .own "InvalidKey", .own "InvalidTest", .own "InvalidClause", .own "InvalidSources", .own "InvalidFate", .own "InvalidText", .own "InvalidPair", .own "InvalidLook", .own "InvalidDeed", .own "InvalidLimit", .own "DuplicateName", .own "DuplicateStamp", .own "DuplicateKey", .own "SameStamp", .own "SameCard", .own "OtherSources", .own "OtherDevice", .own "Stuck", .own "Full", .own "UnknownName", .own "UnknownPair", .own "UnknownNote", .own "NothingLeft", .own "CardError", .own "Missing", .ty "ValueError", .ty "LookupError", .ty "IndexError"]
def objs : List Str := []
abbrev s__law_bag : Stmt := top 30
def d__law_bag : He.DefD := ⟨("_law_bag", none), "_law_bag", "_law_bag", defArgs s__law_bag, defBody s__law_bag, defScope s__law_bag, [], []⟩
abbrev s__law_pick : Stmt := top 31
def d__law_pick : He.DefD := ⟨("_law_pick", none), "_law_pick", "_law_pick", defArgs s__law_pick, defBody s__law_pick, defScope s__law_pick, [], []⟩
abbrev s__law_of : Stmt := top 32
def d__law_of : He.DefD := ⟨("_law_of", none), "_law_of", "_law_of", defArgs s__law_of, defBody s__law_of, defScope s__law_of, [], []⟩
abbrev s__law_like : Stmt := top 33
def d__law_like : He.DefD := ⟨("_law_like", none), "_law_like", "_law_like", defArgs s__law_like, defBody s__law_like, defScope s__law_like, [], []⟩
abbrev s__law_field : Stmt := top 34
def d__law_field : He.DefD := ⟨("_law_field", none), "_law_field", "_law_field", defArgs s__law_field, defBody s__law_field, defScope s__law_field, [], []⟩
abbrev s__law_errors : Stmt := top 35
def d__law_errors : He.DefD := ⟨("_law_errors", none), "_law_errors", "_law_errors", defArgs s__law_errors, defBody s__law_errors, defScope s__law_errors, [], []⟩
abbrev s__law_bases : Stmt := top 37
def d__law_bases : He.DefD := ⟨("_law_bases", none), "_law_bases", "_law_bases", defArgs s__law_bases, defBody s__law_bases, defScope s__law_bases, [], []⟩
abbrev s__law_flags : Stmt := top 36
def d__law_flags : He.DefD := ⟨("_law_flags", none), "_law_flags", "_law_flags", defArgs s__law_flags, defBody s__law_flags, defScope s__law_flags, [], []⟩
abbrev s_law : Stmt := top 38
def d_law : He.DefD := ⟨("law", none), "law", "law", defArgs s_law, defBody s_law, defScope s_law, [], []⟩
def fn : List He.DefD := [d__law_bag, d__law_pick, d__law_of, d__law_like, d__law_field, d__law_errors, d__law_bases, d__law_flags, d_law]
def fa : List He.Fa := [.free "list", .free "len", .free "abs", .free "int", .glo "_law_pick", .free "tuple", .free "isinstance", .free "zip", .glo "_law_like", .free "all", .free "bool", .free "str", .glo "Full", .glo "Stuck", .glo "OtherDevice", .glo "OtherSources", .glo "SameCard", .glo "SameStamp", .glo "DuplicateKey", .glo "DuplicateStamp", .glo "DuplicateName", .glo "InvalidLimit", .glo "InvalidDeed", .glo "InvalidLook", .glo "InvalidPair", .glo "InvalidText", .glo "InvalidFate", .glo "InvalidSources", .glo "InvalidClause", .glo "InvalidTest", .glo "InvalidKey", .glo "InvalidStamp", .glo "InvalidWord", .glo "InvalidName", .free "IndexError", .free "LookupError", .free "ValueError", .glo "Missing", .glo "CardError", .glo "NothingLeft", .glo "UnknownNote", .glo "UnknownPair", .glo "UnknownName", .glo "_law_bag", .free "range", .glo "_law_of", .glo "_law_errors", .glo "_law_field", .glo "_law_bases", .glo "_law_flags", .glo "law"]
def fx : List (PySem.W.Frag → Bool) := [supB, errB "InvalidName" "ValueError" "ValueError.__new__" "ValueError.__init__" [.type "ValueError", .type "Exception", .type "BaseException", .type "object"] "/claim/cut.py" flds, errB "InvalidWord" "ValueError" "ValueError.__new__" "ValueError.__init__" [.type "ValueError", .type "Exception", .type "BaseException", .type "object"] "/claim/cut.py" flds, errB "InvalidStamp" "ValueError" "ValueError.__new__" "ValueError.__init__" [.type "ValueError", .type "Exception", .type "BaseException", .type "object"] "/claim/cut.py" flds, errB "InvalidKey" "ValueError" "ValueError.__new__" "ValueError.__init__" [.type "ValueError", .type "Exception", .type "BaseException", .type "object"] "/claim/cut.py" flds, errB "InvalidTest" "ValueError" "ValueError.__new__" "ValueError.__init__" [.type "ValueError", .type "Exception", .type "BaseException", .type "object"] "/claim/cut.py" flds, errB "InvalidClause" "ValueError" "ValueError.__new__" "ValueError.__init__" [.type "ValueError", .type "Exception", .type "BaseException", .type "object"] "/claim/cut.py" flds, errB "InvalidSources" "ValueError" "ValueError.__new__" "ValueError.__init__" [.type "ValueError", .type "Exception", .type "BaseException", .type "object"] "/claim/cut.py" flds, errB "InvalidFate" "ValueError" "ValueError.__new__" "ValueError.__init__" [.type "ValueError", .type "Exception", .type "BaseException", .type "object"] "/claim/cut.py" flds, errB "InvalidText" "ValueError" "ValueError.__new__" "ValueError.__init__" [.type "ValueError", .type "Exception", .type "BaseException", .type "object"] "/claim/cut.py" flds, errB "InvalidPair" "ValueError" "ValueError.__new__" "ValueError.__init__" [.type "ValueError", .type "Exception", .type "BaseException", .type "object"] "/claim/cut.py" flds, errB "InvalidLook" "ValueError" "ValueError.__new__" "ValueError.__init__" [.type "ValueError", .type "Exception", .type "BaseException", .type "object"] "/claim/cut.py" flds, errB "InvalidDeed" "ValueError" "ValueError.__new__" "ValueError.__init__" [.type "ValueError", .type "Exception", .type "BaseException", .type "object"] "/claim/cut.py" flds, errB "InvalidLimit" "ValueError" "ValueError.__new__" "ValueError.__init__" [.type "ValueError", .type "Exception", .type "BaseException", .type "object"] "/claim/cut.py" flds, errB "DuplicateName" "ValueError" "ValueError.__new__" "ValueError.__init__" [.type "ValueError", .type "Exception", .type "BaseException", .type "object"] "/claim/cut.py" flds, errB "DuplicateStamp" "ValueError" "ValueError.__new__" "ValueError.__init__" [.type "ValueError", .type "Exception", .type "BaseException", .type "object"] "/claim/cut.py" flds, errB "DuplicateKey" "ValueError" "ValueError.__new__" "ValueError.__init__" [.type "ValueError", .type "Exception", .type "BaseException", .type "object"] "/claim/cut.py" flds, errB "SameStamp" "ValueError" "ValueError.__new__" "ValueError.__init__" [.type "ValueError", .type "Exception", .type "BaseException", .type "object"] "/claim/cut.py" flds, errB "SameCard" "ValueError" "ValueError.__new__" "ValueError.__init__" [.type "ValueError", .type "Exception", .type "BaseException", .type "object"] "/claim/cut.py" flds, errB "OtherSources" "ValueError" "ValueError.__new__" "ValueError.__init__" [.type "ValueError", .type "Exception", .type "BaseException", .type "object"] "/claim/cut.py" flds, errB "OtherDevice" "ValueError" "ValueError.__new__" "ValueError.__init__" [.type "ValueError", .type "Exception", .type "BaseException", .type "object"] "/claim/cut.py" flds, errB "Stuck" "ValueError" "ValueError.__new__" "ValueError.__init__" [.type "ValueError", .type "Exception", .type "BaseException", .type "object"] "/claim/cut.py" flds, errB "Full" "ValueError" "ValueError.__new__" "ValueError.__init__" [.type "ValueError", .type "Exception", .type "BaseException", .type "object"] "/claim/cut.py" flds, errB "UnknownName" "LookupError" "LookupError.__new__" "LookupError.__init__" [.type "LookupError", .type "Exception", .type "BaseException", .type "object"] "/claim/cut.py" flds, errB "UnknownPair" "LookupError" "LookupError.__new__" "LookupError.__init__" [.type "LookupError", .type "Exception", .type "BaseException", .type "object"] "/claim/cut.py" flds, errB "UnknownNote" "LookupError" "LookupError.__new__" "LookupError.__init__" [.type "LookupError", .type "Exception", .type "BaseException", .type "object"] "/claim/cut.py" flds, errB "NothingLeft" "IndexError" "IndexError.__new__" "IndexError.__init__" [.type "IndexError", .type "LookupError", .type "Exception", .type "BaseException", .type "object"] "/claim/cut.py" flds, mroB isM isC]
def fe : List He.DefD := [d_InvalidName, d_InvalidWord, d_InvalidStamp, d_InvalidKey, d_InvalidTest, d_InvalidClause, d_InvalidSources, d_InvalidFate, d_InvalidText, d_InvalidPair, d_InvalidLook, d_InvalidDeed, d_InvalidLimit, d_DuplicateName, d_DuplicateStamp, d_DuplicateKey, d_SameStamp, d_SameCard, d_OtherSources, d_OtherDevice, d_Stuck, d_Full, d_UnknownName, d_UnknownPair, d_UnknownNote, d_NothingLeft]
abbrev Tx (P : Program) (K : PySem.W.Frag) (mg : Str → Option Value) : Prop := TopY fa fn fx fe "/claim/cut.py" P K mg
end L2.Dl
namespace L2.Dl
open PySem PySem.Spec PyProof.Rows
section
variable {P : Program} {w : World} {K : PySem.W.Frag} {mg : Str → Option Value} {base : Heap}
theorem ec_InvalidName (T : Tx P K mg) : ErrC P K (He.ga K "InvalidName") "ValueError" "ValueError.__new__" "ValueError.__init__" [.type "ValueError", .type "Exception", .type "BaseException", .type "object"] (He.fAd K ("InvalidName", some "__init__")) (codeA K (He.fAd K ("InvalidName", some "__init__"))) (cellA K (He.fAd K ("InvalidName", some "__init__"))) "InvalidName.__init__" (defArgs s_InvalidName) (defBody s_InvalidName) (defScope s_InvalidName) ∧ ExcF K (He.ga K "InvalidName") ∧ ∀ f ∈ flds, PySem.W.findIn K (.ref (He.ga K "InvalidName")) f = some none := errB_ok (d := d_InvalidName) bx_V T.pf (T.fx_ 0) (T.fe_at 0 rfl) rfl (T.fx_ 1 rfl)
theorem ie_InvalidName : IsErr1 "InvalidName.__init__" (defArgs s_InvalidName) (defBody s_InvalidName) (defScope s_InvalidName) "InvalidName" "name" := ⟨⟨_, _, _, _, _, _, _, _, _, _, _, _, _, _, _, _, rfl, fun _ _ _ _ => ⟨_, rfl⟩⟩, fun _ _ _ _ _ _ _ _ _ _ => rfl, fun _ _ _ _ _ _ _ _ _ _ => rfl, by decide, by decide, by decide, rfl, ⟨_, rfl, rfl⟩, rfl, rfl, rfl, by decide, rfl, rfl, rfl, by decide +kernel⟩
theorem ec_InvalidWord (T : Tx P K mg) : ErrC P K (He.ga K "InvalidWord") "ValueError" "ValueError.__new__" "ValueError.__init__" [.type "ValueError", .type "Exception", .type "BaseException", .type "object"] (He.fAd K ("InvalidWord", some "__init__")) (codeA K (He.fAd K ("InvalidWord", some "__init__"))) (cellA K (He.fAd K ("InvalidWord", some "__init__"))) "InvalidWord.__init__" (defArgs s_InvalidWord) (defBody s_InvalidWord) (defScope s_InvalidWord) ∧ ExcF K (He.ga K "InvalidWord") ∧ ∀ f ∈ flds, PySem.W.findIn K (.ref (He.ga K "InvalidWord")) f = some none := errB_ok (d := d_InvalidWord) bx_V T.pf (T.fx_ 0) (T.fe_at 1 rfl) rfl (T.fx_ 2 rfl)
theorem ie_InvalidWord : IsErr1 "InvalidWord.__init__" (defArgs s_InvalidWord) (defBody s_InvalidWord) (defScope s_InvalidWord) "InvalidWord" "word" := ⟨⟨_, _, _, _, _, _, _, _, _, _, _, _, _, _, _, _, rfl, fun _ _ _ _ => ⟨_, rfl⟩⟩, fun _ _ _ _ _ _ _ _ _ _ => rfl, fun _ _ _ _ _ _ _ _ _ _ => rfl, by decide, by decide, by decide, rfl, ⟨_, rfl, rfl⟩, rfl, rfl, rfl, by decide, rfl, rfl, rfl, by decide +kernel⟩
theorem ec_InvalidStamp (T : Tx P K mg) : ErrC P K (He.ga K "InvalidStamp") "ValueError" "ValueError.__new__" "ValueError.__init__" [.type "ValueError", .type "Exception", .type "BaseException", .type "object"] (He.fAd K ("InvalidStamp", some "__init__")) (codeA K (He.fAd K ("InvalidStamp", some "__init__"))) (cellA K (He.fAd K ("InvalidStamp", some "__init__"))) "InvalidStamp.__init__" (defArgs s_InvalidStamp) (defBody s_InvalidStamp) (defScope s_InvalidStamp) ∧ ExcF K (He.ga K "InvalidStamp") ∧ ∀ f ∈ flds, PySem.W.findIn K (.ref (He.ga K "InvalidStamp")) f = some none := errB_ok (d := d_InvalidStamp) bx_V T.pf (T.fx_ 0) (T.fe_at 2 rfl) rfl (T.fx_ 3 rfl)
theorem ie_InvalidStamp : IsErr1 "InvalidStamp.__init__" (defArgs s_InvalidStamp) (defBody s_InvalidStamp) (defScope s_InvalidStamp) "InvalidStamp" "stamp" := ⟨⟨_, _, _, _, _, _, _, _, _, _, _, _, _, _, _, _, rfl, fun _ _ _ _ => ⟨_, rfl⟩⟩, fun _ _ _ _ _ _ _ _ _ _ => rfl, fun _ _ _ _ _ _ _ _ _ _ => rfl, by decide, by decide, by decide, rfl, ⟨_, rfl, rfl⟩, rfl, rfl, rfl, by decide, rfl, rfl, rfl, by decide +kernel⟩
theorem ec_InvalidKey (T : Tx P K mg) : ErrC P K (He.ga K "InvalidKey") "ValueError" "ValueError.__new__" "ValueError.__init__" [.type "ValueError", .type "Exception", .type "BaseException", .type "object"] (He.fAd K ("InvalidKey", some "__init__")) (codeA K (He.fAd K ("InvalidKey", some "__init__"))) (cellA K (He.fAd K ("InvalidKey", some "__init__"))) "InvalidKey.__init__" (defArgs s_InvalidKey) (defBody s_InvalidKey) (defScope s_InvalidKey) ∧ ExcF K (He.ga K "InvalidKey") ∧ ∀ f ∈ flds, PySem.W.findIn K (.ref (He.ga K "InvalidKey")) f = some none := errB_ok (d := d_InvalidKey) bx_V T.pf (T.fx_ 0) (T.fe_at 3 rfl) rfl (T.fx_ 4 rfl)
theorem ie_InvalidKey : IsErr1 "InvalidKey.__init__" (defArgs s_InvalidKey) (defBody s_InvalidKey) (defScope s_InvalidKey) "InvalidKey" "given" := ⟨⟨_, _, _, _, _, _, _, _, _, _, _, _, _, _, _, _, rfl, fun _ _ _ _ => ⟨_, rfl⟩⟩, fun _ _ _ _ _ _ _ _ _ _ => rfl, fun _ _ _ _ _ _ _ _ _ _ => rfl, by decide, by decide, by decide, rfl, ⟨_, rfl, rfl⟩, rfl, rfl, rfl, by decide, rfl, rfl, rfl, by decide +kernel⟩
theorem ec_InvalidTest (T : Tx P K mg) : ErrC P K (He.ga K "InvalidTest") "ValueError" "ValueError.__new__" "ValueError.__init__" [.type "ValueError", .type "Exception", .type "BaseException", .type "object"] (He.fAd K ("InvalidTest", some "__init__")) (codeA K (He.fAd K ("InvalidTest", some "__init__"))) (cellA K (He.fAd K ("InvalidTest", some "__init__"))) "InvalidTest.__init__" (defArgs s_InvalidTest) (defBody s_InvalidTest) (defScope s_InvalidTest) ∧ ExcF K (He.ga K "InvalidTest") ∧ ∀ f ∈ flds, PySem.W.findIn K (.ref (He.ga K "InvalidTest")) f = some none := errB_ok (d := d_InvalidTest) bx_V T.pf (T.fx_ 0) (T.fe_at 4 rfl) rfl (T.fx_ 5 rfl)
theorem ie_InvalidTest : IsErr1 "InvalidTest.__init__" (defArgs s_InvalidTest) (defBody s_InvalidTest) (defScope s_InvalidTest) "InvalidTest" "test" := ⟨⟨_, _, _, _, _, _, _, _, _, _, _, _, _, _, _, _, rfl, fun _ _ _ _ => ⟨_, rfl⟩⟩, fun _ _ _ _ _ _ _ _ _ _ => rfl, fun _ _ _ _ _ _ _ _ _ _ => rfl, by decide, by decide, by decide, rfl, ⟨_, rfl, rfl⟩, rfl, rfl, rfl, by decide, rfl, rfl, rfl, by decide +kernel⟩
theorem ec_InvalidClause (T : Tx P K mg) : ErrC P K (He.ga K "InvalidClause") "ValueError" "ValueError.__new__" "ValueError.__init__" [.type "ValueError", .type "Exception", .type "BaseException", .type "object"] (He.fAd K ("InvalidClause", some "__init__")) (codeA K (He.fAd K ("InvalidClause", some "__init__"))) (cellA K (He.fAd K ("InvalidClause", some "__init__"))) "InvalidClause.__init__" (defArgs s_InvalidClause) (defBody s_InvalidClause) (defScope s_InvalidClause) ∧ ExcF K (He.ga K "InvalidClause") ∧ ∀ f ∈ flds, PySem.W.findIn K (.ref (He.ga K "InvalidClause")) f = some none := errB_ok (d := d_InvalidClause) bx_V T.pf (T.fx_ 0) (T.fe_at 5 rfl) rfl (T.fx_ 6 rfl)
theorem ie_InvalidClause : IsErr1 "InvalidClause.__init__" (defArgs s_InvalidClause) (defBody s_InvalidClause) (defScope s_InvalidClause) "InvalidClause" "at" := ⟨⟨_, _, _, _, _, _, _, _, _, _, _, _, _, _, _, _, rfl, fun _ _ _ _ => ⟨_, rfl⟩⟩, fun _ _ _ _ _ _ _ _ _ _ => rfl, fun _ _ _ _ _ _ _ _ _ _ => rfl, by decide, by decide, by decide, rfl, ⟨_, rfl, rfl⟩, rfl, rfl, rfl, by decide, rfl, rfl, rfl, by decide +kernel⟩
theorem ec_InvalidSources (T : Tx P K mg) : ErrC P K (He.ga K "InvalidSources") "ValueError" "ValueError.__new__" "ValueError.__init__" [.type "ValueError", .type "Exception", .type "BaseException", .type "object"] (He.fAd K ("InvalidSources", some "__init__")) (codeA K (He.fAd K ("InvalidSources", some "__init__"))) (cellA K (He.fAd K ("InvalidSources", some "__init__"))) "InvalidSources.__init__" (defArgs s_InvalidSources) (defBody s_InvalidSources) (defScope s_InvalidSources) ∧ ExcF K (He.ga K "InvalidSources") ∧ ∀ f ∈ flds, PySem.W.findIn K (.ref (He.ga K "InvalidSources")) f = some none := errB_ok (d := d_InvalidSources) bx_V T.pf (T.fx_ 0) (T.fe_at 6 rfl) rfl (T.fx_ 7 rfl)
theorem ie_InvalidSources : IsErr1 "InvalidSources.__init__" (defArgs s_InvalidSources) (defBody s_InvalidSources) (defScope s_InvalidSources) "InvalidSources" "at" := ⟨⟨_, _, _, _, _, _, _, _, _, _, _, _, _, _, _, _, rfl, fun _ _ _ _ => ⟨_, rfl⟩⟩, fun _ _ _ _ _ _ _ _ _ _ => rfl, fun _ _ _ _ _ _ _ _ _ _ => rfl, by decide, by decide, by decide, rfl, ⟨_, rfl, rfl⟩, rfl, rfl, rfl, by decide, rfl, rfl, rfl, by decide +kernel⟩
theorem ec_InvalidFate (T : Tx P K mg) : ErrC P K (He.ga K "InvalidFate") "ValueError" "ValueError.__new__" "ValueError.__init__" [.type "ValueError", .type "Exception", .type "BaseException", .type "object"] (He.fAd K ("InvalidFate", some "__init__")) (codeA K (He.fAd K ("InvalidFate", some "__init__"))) (cellA K (He.fAd K ("InvalidFate", some "__init__"))) "InvalidFate.__init__" (defArgs s_InvalidFate) (defBody s_InvalidFate) (defScope s_InvalidFate) ∧ ExcF K (He.ga K "InvalidFate") ∧ ∀ f ∈ flds, PySem.W.findIn K (.ref (He.ga K "InvalidFate")) f = some none := errB_ok (d := d_InvalidFate) bx_V T.pf (T.fx_ 0) (T.fe_at 7 rfl) rfl (T.fx_ 8 rfl)
theorem ie_InvalidFate : IsErr1 "InvalidFate.__init__" (defArgs s_InvalidFate) (defBody s_InvalidFate) (defScope s_InvalidFate) "InvalidFate" "fate" := ⟨⟨_, _, _, _, _, _, _, _, _, _, _, _, _, _, _, _, rfl, fun _ _ _ _ => ⟨_, rfl⟩⟩, fun _ _ _ _ _ _ _ _ _ _ => rfl, fun _ _ _ _ _ _ _ _ _ _ => rfl, by decide, by decide, by decide, rfl, ⟨_, rfl, rfl⟩, rfl, rfl, rfl, by decide, rfl, rfl, rfl, by decide +kernel⟩
theorem ec_InvalidText (T : Tx P K mg) : ErrC P K (He.ga K "InvalidText") "ValueError" "ValueError.__new__" "ValueError.__init__" [.type "ValueError", .type "Exception", .type "BaseException", .type "object"] (He.fAd K ("InvalidText", some "__init__")) (codeA K (He.fAd K ("InvalidText", some "__init__"))) (cellA K (He.fAd K ("InvalidText", some "__init__"))) "InvalidText.__init__" (defArgs s_InvalidText) (defBody s_InvalidText) (defScope s_InvalidText) ∧ ExcF K (He.ga K "InvalidText") ∧ ∀ f ∈ flds, PySem.W.findIn K (.ref (He.ga K "InvalidText")) f = some none := errB_ok (d := d_InvalidText) bx_V T.pf (T.fx_ 0) (T.fe_at 8 rfl) rfl (T.fx_ 9 rfl)
theorem ie_InvalidText : IsErr1 "InvalidText.__init__" (defArgs s_InvalidText) (defBody s_InvalidText) (defScope s_InvalidText) "InvalidText" "line" := ⟨⟨_, _, _, _, _, _, _, _, _, _, _, _, _, _, _, _, rfl, fun _ _ _ _ => ⟨_, rfl⟩⟩, fun _ _ _ _ _ _ _ _ _ _ => rfl, fun _ _ _ _ _ _ _ _ _ _ => rfl, by decide, by decide, by decide, rfl, ⟨_, rfl, rfl⟩, rfl, rfl, rfl, by decide, rfl, rfl, rfl, by decide +kernel⟩
theorem ec_InvalidPair (T : Tx P K mg) : ErrC P K (He.ga K "InvalidPair") "ValueError" "ValueError.__new__" "ValueError.__init__" [.type "ValueError", .type "Exception", .type "BaseException", .type "object"] (He.fAd K ("InvalidPair", some "__init__")) (codeA K (He.fAd K ("InvalidPair", some "__init__"))) (cellA K (He.fAd K ("InvalidPair", some "__init__"))) "InvalidPair.__init__" (defArgs s_InvalidPair) (defBody s_InvalidPair) (defScope s_InvalidPair) ∧ ExcF K (He.ga K "InvalidPair") ∧ ∀ f ∈ flds, PySem.W.findIn K (.ref (He.ga K "InvalidPair")) f = some none := errB_ok (d := d_InvalidPair) bx_V T.pf (T.fx_ 0) (T.fe_at 9 rfl) rfl (T.fx_ 10 rfl)
theorem ie_InvalidPair : IsErr1 "InvalidPair.__init__" (defArgs s_InvalidPair) (defBody s_InvalidPair) (defScope s_InvalidPair) "InvalidPair" "given" := ⟨⟨_, _, _, _, _, _, _, _, _, _, _, _, _, _, _, _, rfl, fun _ _ _ _ => ⟨_, rfl⟩⟩, fun _ _ _ _ _ _ _ _ _ _ => rfl, fun _ _ _ _ _ _ _ _ _ _ => rfl, by decide, by decide, by decide, rfl, ⟨_, rfl, rfl⟩, rfl, rfl, rfl, by decide, rfl, rfl, rfl, by decide +kernel⟩
theorem ec_InvalidLook (T : Tx P K mg) : ErrC P K (He.ga K "InvalidLook") "ValueError" "ValueError.__new__" "ValueError.__init__" [.type "ValueError", .type "Exception", .type "BaseException", .type "object"] (He.fAd K ("InvalidLook", some "__init__")) (codeA K (He.fAd K ("InvalidLook", some "__init__"))) (cellA K (He.fAd K ("InvalidLook", some "__init__"))) "InvalidLook.__init__" (defArgs s_InvalidLook) (defBody s_InvalidLook) (defScope s_InvalidLook) ∧ ExcF K (He.ga K "InvalidLook") ∧ ∀ f ∈ flds, PySem.W.findIn K (.ref (He.ga K "InvalidLook")) f = some none := errB_ok (d := d_InvalidLook) bx_V T.pf (T.fx_ 0) (T.fe_at 10 rfl) rfl (T.fx_ 11 rfl)
theorem ie_InvalidLook : IsErr1 "InvalidLook.__init__" (defArgs s_InvalidLook) (defBody s_InvalidLook) (defScope s_InvalidLook) "InvalidLook" "at" := ⟨⟨_, _, _, _, _, _, _, _, _, _, _, _, _, _, _, _, rfl, fun _ _ _ _ => ⟨_, rfl⟩⟩, fun _ _ _ _ _ _ _ _ _ _ => rfl, fun _ _ _ _ _ _ _ _ _ _ => rfl, by decide, by decide, by decide, rfl, ⟨_, rfl, rfl⟩, rfl, rfl, rfl, by decide, rfl, rfl, rfl, by decide +kernel⟩
theorem ec_InvalidDeed (T : Tx P K mg) : ErrC P K (He.ga K "InvalidDeed") "ValueError" "ValueError.__new__" "ValueError.__init__" [.type "ValueError", .type "Exception", .type "BaseException", .type "object"] (He.fAd K ("InvalidDeed", some "__init__")) (codeA K (He.fAd K ("InvalidDeed", some "__init__"))) (cellA K (He.fAd K ("InvalidDeed", some "__init__"))) "InvalidDeed.__init__" (defArgs s_InvalidDeed) (defBody s_InvalidDeed) (defScope s_InvalidDeed) ∧ ExcF K (He.ga K "InvalidDeed") ∧ ∀ f ∈ flds, PySem.W.findIn K (.ref (He.ga K "InvalidDeed")) f = some none := errB_ok (d := d_InvalidDeed) bx_V T.pf (T.fx_ 0) (T.fe_at 11 rfl) rfl (T.fx_ 12 rfl)
theorem ie_InvalidDeed : IsErr1 "InvalidDeed.__init__" (defArgs s_InvalidDeed) (defBody s_InvalidDeed) (defScope s_InvalidDeed) "InvalidDeed" "at" := ⟨⟨_, _, _, _, _, _, _, _, _, _, _, _, _, _, _, _, rfl, fun _ _ _ _ => ⟨_, rfl⟩⟩, fun _ _ _ _ _ _ _ _ _ _ => rfl, fun _ _ _ _ _ _ _ _ _ _ => rfl, by decide, by decide, by decide, rfl, ⟨_, rfl, rfl⟩, rfl, rfl, rfl, by decide, rfl, rfl, rfl, by decide +kernel⟩
theorem ec_InvalidLimit (T : Tx P K mg) : ErrC P K (He.ga K "InvalidLimit") "ValueError" "ValueError.__new__" "ValueError.__init__" [.type "ValueError", .type "Exception", .type "BaseException", .type "object"] (He.fAd K ("InvalidLimit", some "__init__")) (codeA K (He.fAd K ("InvalidLimit", some "__init__"))) (cellA K (He.fAd K ("InvalidLimit", some "__init__"))) "InvalidLimit.__init__" (defArgs s_InvalidLimit) (defBody s_InvalidLimit) (defScope s_InvalidLimit) ∧ ExcF K (He.ga K "InvalidLimit") ∧ ∀ f ∈ flds, PySem.W.findIn K (.ref (He.ga K "InvalidLimit")) f = some none := errB_ok (d := d_InvalidLimit) bx_V T.pf (T.fx_ 0) (T.fe_at 12 rfl) rfl (T.fx_ 13 rfl)
theorem ie_InvalidLimit : IsErr1 "InvalidLimit.__init__" (defArgs s_InvalidLimit) (defBody s_InvalidLimit) (defScope s_InvalidLimit) "InvalidLimit" "limit" := ⟨⟨_, _, _, _, _, _, _, _, _, _, _, _, _, _, _, _, rfl, fun _ _ _ _ => ⟨_, rfl⟩⟩, fun _ _ _ _ _ _ _ _ _ _ => rfl, fun _ _ _ _ _ _ _ _ _ _ => rfl, by decide, by decide, by decide, rfl, ⟨_, rfl, rfl⟩, rfl, rfl, rfl, by decide, rfl, rfl, rfl, by decide +kernel⟩
theorem ec_DuplicateName (T : Tx P K mg) : ErrC P K (He.ga K "DuplicateName") "ValueError" "ValueError.__new__" "ValueError.__init__" [.type "ValueError", .type "Exception", .type "BaseException", .type "object"] (He.fAd K ("DuplicateName", some "__init__")) (codeA K (He.fAd K ("DuplicateName", some "__init__"))) (cellA K (He.fAd K ("DuplicateName", some "__init__"))) "DuplicateName.__init__" (defArgs s_DuplicateName) (defBody s_DuplicateName) (defScope s_DuplicateName) ∧ ExcF K (He.ga K "DuplicateName") ∧ ∀ f ∈ flds, PySem.W.findIn K (.ref (He.ga K "DuplicateName")) f = some none := errB_ok (d := d_DuplicateName) bx_V T.pf (T.fx_ 0) (T.fe_at 13 rfl) rfl (T.fx_ 14 rfl)
theorem ie_DuplicateName : IsErr1 "DuplicateName.__init__" (defArgs s_DuplicateName) (defBody s_DuplicateName) (defScope s_DuplicateName) "DuplicateName" "name" := ⟨⟨_, _, _, _, _, _, _, _, _, _, _, _, _, _, _, _, rfl, fun _ _ _ _ => ⟨_, rfl⟩⟩, fun _ _ _ _ _ _ _ _ _ _ => rfl, fun _ _ _ _ _ _ _ _ _ _ => rfl, by decide, by decide, by decide, rfl, ⟨_, rfl, rfl⟩, rfl, rfl, rfl, by decide, rfl, rfl, rfl, by decide +kernel⟩
theorem ec_DuplicateStamp (T : Tx P K mg) : ErrC P K (He.ga K "DuplicateStamp") "ValueError" "ValueError.__new__" "ValueError.__init__" [.type "ValueError", .type "Exception", .type "BaseException", .type "object"] (He.fAd K ("DuplicateStamp", some "__init__")) (codeA K (He.fAd K ("DuplicateStamp", some "__init__"))) (cellA K (He.fAd K ("DuplicateStamp", some "__init__"))) "DuplicateStamp.__init__" (defArgs s_DuplicateStamp) (defBody s_DuplicateStamp) (defScope s_DuplicateStamp) ∧ ExcF K (He.ga K "DuplicateStamp") ∧ ∀ f ∈ flds, PySem.W.findIn K (.ref (He.ga K "DuplicateStamp")) f = some none := errB_ok (d := d_DuplicateStamp) bx_V T.pf (T.fx_ 0) (T.fe_at 14 rfl) rfl (T.fx_ 15 rfl)
theorem ie_DuplicateStamp : IsErr1 "DuplicateStamp.__init__" (defArgs s_DuplicateStamp) (defBody s_DuplicateStamp) (defScope s_DuplicateStamp) "DuplicateStamp" "stamp" := ⟨⟨_, _, _, _, _, _, _, _, _, _, _, _, _, _, _, _, rfl, fun _ _ _ _ => ⟨_, rfl⟩⟩, fun _ _ _ _ _ _ _ _ _ _ => rfl, fun _ _ _ _ _ _ _ _ _ _ => rfl, by decide, by decide, by decide, rfl, ⟨_, rfl, rfl⟩, rfl, rfl, rfl, by decide, rfl, rfl, rfl, by decide +kernel⟩
theorem ec_DuplicateKey (T : Tx P K mg) : ErrC P K (He.ga K "DuplicateKey") "ValueError" "ValueError.__new__" "ValueError.__init__" [.type "ValueError", .type "Exception", .type "BaseException", .type "object"] (He.fAd K ("DuplicateKey", some "__init__")) (codeA K (He.fAd K ("DuplicateKey", some "__init__"))) (cellA K (He.fAd K ("DuplicateKey", some "__init__"))) "DuplicateKey.__init__" (defArgs s_DuplicateKey) (defBody s_DuplicateKey) (defScope s_DuplicateKey) ∧ ExcF K (He.ga K "DuplicateKey") ∧ ∀ f ∈ flds, PySem.W.findIn K (.ref (He.ga K "DuplicateKey")) f = some none := errB_ok (d := d_DuplicateKey) bx_V T.pf (T.fx_ 0) (T.fe_at 15 rfl) rfl (T.fx_ 16 rfl)
theorem ie_DuplicateKey : IsErr1 "DuplicateKey.__init__" (defArgs s_DuplicateKey) (defBody s_DuplicateKey) (defScope s_DuplicateKey) "DuplicateKey" "given" := ⟨⟨_, _, _, _, _, _, _, _, _, _, _, _, _, _, _, _, rfl, fun _ _ _ _ => ⟨_, rfl⟩⟩, fun _ _ _ _ _ _ _ _ _ _ => rfl, fun _ _ _ _ _ _ _ _ _ _ => rfl, by decide, by decide, by decide, rfl, ⟨_, rfl, rfl⟩, rfl, rfl, rfl, by decide, rfl, rfl, rfl, by decide +kernel⟩
theorem ec_SameStamp (T : Tx P K mg) : ErrC P K (He.ga K "SameStamp") "ValueError" "ValueError.__new__" "ValueError.__init__" [.type "ValueError", .type "Exception", .type "BaseException", .type "object"] (He.fAd K ("SameStamp", some "__init__")) (codeA K (He.fAd K ("SameStamp", some "__init__"))) (cellA K (He.fAd K ("SameStamp", some "__init__"))) "SameStamp.__init__" (defArgs s_SameStamp) (defBody s_SameStamp) (defScope s_SameStamp) ∧ ExcF K (He.ga K "SameStamp") ∧ ∀ f ∈ flds, PySem.W.findIn K (.ref (He.ga K "SameStamp")) f = some none := errB_ok (d := d_SameStamp) bx_V T.pf (T.fx_ 0) (T.fe_at 16 rfl) rfl (T.fx_ 17 rfl)
theorem ie_SameStamp : IsErr1 "SameStamp.__init__" (defArgs s_SameStamp) (defBody s_SameStamp) (defScope s_SameStamp) "SameStamp" "stamp" := ⟨⟨_, _, _, _, _, _, _, _, _, _, _, _, _, _, _, _, rfl, fun _ _ _ _ => ⟨_, rfl⟩⟩, fun _ _ _ _ _ _ _ _ _ _ => rfl, fun _ _ _ _ _ _ _ _ _ _ => rfl, by decide, by decide, by decide, rfl, ⟨_, rfl, rfl⟩, rfl, rfl, rfl, by decide, rfl, rfl, rfl, by decide +kernel⟩
theorem ec_SameCard (T : Tx P K mg) : ErrC P K (He.ga K "SameCard") "ValueError" "ValueError.__new__" "ValueError.__init__" [.type "ValueError", .type "Exception", .type "BaseException", .type "object"] (He.fAd K ("SameCard", some "__init__")) (codeA K (He.fAd K ("SameCard", some "__init__"))) (cellA K (He.fAd K ("SameCard", some "__init__"))) "SameCard.__init__" (defArgs s_SameCard) (defBody s_SameCard) (defScope s_SameCard) ∧ ExcF K (He.ga K "SameCard") ∧ ∀ f ∈ flds, PySem.W.findIn K (.ref (He.ga K "SameCard")) f = some none := errB_ok (d := d_SameCard) bx_V T.pf (T.fx_ 0) (T.fe_at 17 rfl) rfl (T.fx_ 18 rfl)
theorem ie_SameCard : IsErr1 "SameCard.__init__" (defArgs s_SameCard) (defBody s_SameCard) (defScope s_SameCard) "SameCard" "name" := ⟨⟨_, _, _, _, _, _, _, _, _, _, _, _, _, _, _, _, rfl, fun _ _ _ _ => ⟨_, rfl⟩⟩, fun _ _ _ _ _ _ _ _ _ _ => rfl, fun _ _ _ _ _ _ _ _ _ _ => rfl, by decide, by decide, by decide, rfl, ⟨_, rfl, rfl⟩, rfl, rfl, rfl, by decide, rfl, rfl, rfl, by decide +kernel⟩
theorem ec_OtherSources (T : Tx P K mg) : ErrC P K (He.ga K "OtherSources") "ValueError" "ValueError.__new__" "ValueError.__init__" [.type "ValueError", .type "Exception", .type "BaseException", .type "object"] (He.fAd K ("OtherSources", some "__init__")) (codeA K (He.fAd K ("OtherSources", some "__init__"))) (cellA K (He.fAd K ("OtherSources", some "__init__"))) "OtherSources.__init__" (defArgs s_OtherSources) (defBody s_OtherSources) (defScope s_OtherSources) ∧ ExcF K (He.ga K "OtherSources") ∧ ∀ f ∈ flds, PySem.W.findIn K (.ref (He.ga K "OtherSources")) f = some none := errB_ok (d := d_OtherSources) bx_V T.pf (T.fx_ 0) (T.fe_at 18 rfl) rfl (T.fx_ 19 rfl)
theorem ie_OtherSources : IsErr0 "OtherSources.__init__" (defArgs s_OtherSources) (defBody s_OtherSources) (defScope s_OtherSources) "OtherSources" := ⟨⟨_, _, _, _, _, _, _, _, _, _, _, _, rfl, fun _ _ _ _ => ⟨_, rfl⟩⟩, fun _ _ _ _ _ _ _ _ _ => rfl, ⟨_, rfl, rfl⟩, rfl, rfl, rfl, by decide, rfl, rfl, rfl, by decide +kernel⟩
theorem ec_OtherDevice (T : Tx P K mg) : ErrC P K (He.ga K "OtherDevice") "ValueError" "ValueError.__new__" "ValueError.__init__" [.type "ValueError", .type "Exception", .type "BaseException", .type "object"] (He.fAd K ("OtherDevice", some "__init__")) (codeA K (He.fAd K ("OtherDevice", some "__init__"))) (cellA K (He.fAd K ("OtherDevice", some "__init__"))) "OtherDevice.__init__" (defArgs s_OtherDevice) (defBody s_OtherDevice) (defScope s_OtherDevice) ∧ ExcF K (He.ga K "OtherDevice") ∧ ∀ f ∈ flds, PySem.W.findIn K (.ref (He.ga K "OtherDevice")) f = some none := errB_ok (d := d_OtherDevice) bx_V T.pf (T.fx_ 0) (T.fe_at 19 rfl) rfl (T.fx_ 20 rfl)
theorem ie_OtherDevice : IsErr0 "OtherDevice.__init__" (defArgs s_OtherDevice) (defBody s_OtherDevice) (defScope s_OtherDevice) "OtherDevice" := ⟨⟨_, _, _, _, _, _, _, _, _, _, _, _, rfl, fun _ _ _ _ => ⟨_, rfl⟩⟩, fun _ _ _ _ _ _ _ _ _ => rfl, ⟨_, rfl, rfl⟩, rfl, rfl, rfl, by decide, rfl, rfl, rfl, by decide +kernel⟩
theorem ec_Stuck (T : Tx P K mg) : ErrC P K (He.ga K "Stuck") "ValueError" "ValueError.__new__" "ValueError.__init__" [.type "ValueError", .type "Exception", .type "BaseException", .type "object"] (He.fAd K ("Stuck", some "__init__")) (codeA K (He.fAd K ("Stuck", some "__init__"))) (cellA K (He.fAd K ("Stuck", some "__init__"))) "Stuck.__init__" (defArgs s_Stuck) (defBody s_Stuck) (defScope s_Stuck) ∧ ExcF K (He.ga K "Stuck") ∧ ∀ f ∈ flds, PySem.W.findIn K (.ref (He.ga K "Stuck")) f = some none := errB_ok (d := d_Stuck) bx_V T.pf (T.fx_ 0) (T.fe_at 20 rfl) rfl (T.fx_ 21 rfl)
theorem ie_Stuck : IsErr1 "Stuck.__init__" (defArgs s_Stuck) (defBody s_Stuck) (defScope s_Stuck) "Stuck" "looks" := ⟨⟨_, _, _, _, _, _, _, _, _, _, _, _, _, _, _, _, rfl, fun _ _ _ _ => ⟨_, rfl⟩⟩, fun _ _ _ _ _ _ _ _ _ _ => rfl, fun _ _ _ _ _ _ _ _ _ _ => rfl, by decide, by decide, by decide, rfl, ⟨_, rfl, rfl⟩, rfl, rfl, rfl, by decide, rfl, rfl, rfl, by decide +kernel⟩
theorem ec_Full (T : Tx P K mg) : ErrC P K (He.ga K "Full") "ValueError" "ValueError.__new__" "ValueError.__init__" [.type "ValueError", .type "Exception", .type "BaseException", .type "object"] (He.fAd K ("Full", some "__init__")) (codeA K (He.fAd K ("Full", some "__init__"))) (cellA K (He.fAd K ("Full", some "__init__"))) "Full.__init__" (defArgs s_Full) (defBody s_Full) (defScope s_Full) ∧ ExcF K (He.ga K "Full") ∧ ∀ f ∈ flds, PySem.W.findIn K (.ref (He.ga K "Full")) f = some none := errB_ok (d := d_Full) bx_V T.pf (T.fx_ 0) (T.fe_at 21 rfl) rfl (T.fx_ 22 rfl)
theorem ie_Full : IsErr1 "Full.__init__" (defArgs s_Full) (defBody s_Full) (defScope s_Full) "Full" "most" := ⟨⟨_, _, _, _, _, _, _, _, _, _, _, _, _, _, _, _, rfl, fun _ _ _ _ => ⟨_, rfl⟩⟩, fun _ _ _ _ _ _ _ _ _ _ => rfl, fun _ _ _ _ _ _ _ _ _ _ => rfl, by decide, by decide, by decide, rfl, ⟨_, rfl, rfl⟩, rfl, rfl, rfl, by decide, rfl, rfl, rfl, by decide +kernel⟩
theorem ec_UnknownName (T : Tx P K mg) : ErrC P K (He.ga K "UnknownName") "LookupError" "LookupError.__new__" "LookupError.__init__" [.type "LookupError", .type "Exception", .type "BaseException", .type "object"] (He.fAd K ("UnknownName", some "__init__")) (codeA K (He.fAd K ("UnknownName", some "__init__"))) (cellA K (He.fAd K ("UnknownName", some "__init__"))) "UnknownName.__init__" (defArgs s_UnknownName) (defBody s_UnknownName) (defScope s_UnknownName) ∧ ExcF K (He.ga K "UnknownName") ∧ ∀ f ∈ flds, PySem.W.findIn K (.ref (He.ga K "UnknownName")) f = some none := errB_ok (d := d_UnknownName) bx_L T.pf (T.fx_ 0) (T.fe_at 22 rfl) rfl (T.fx_ 23 rfl)
theorem ie_UnknownName : IsErr1 "UnknownName.__init__" (defArgs s_UnknownName) (defBody s_UnknownName) (defScope s_UnknownName) "UnknownName" "name" := ⟨⟨_, _, _, _, _, _, _, _, _, _, _, _, _, _, _, _, rfl, fun _ _ _ _ => ⟨_, rfl⟩⟩, fun _ _ _ _ _ _ _ _ _ _ => rfl, fun _ _ _ _ _ _ _ _ _ _ => rfl, by decide, by decide, by decide, rfl, ⟨_, rfl, rfl⟩, rfl, rfl, rfl, by decide, rfl, rfl, rfl, by decide +kernel⟩
theorem ec_UnknownPair (T : Tx P K mg) : ErrC P K (He.ga K "UnknownPair") "LookupError" "LookupError.__new__" "LookupError.__init__" [.type "LookupError", .type "Exception", .type "BaseException", .type "object"] (He.fAd K ("UnknownPair", some "__init__")) (codeA K (He.fAd K ("UnknownPair", some "__init__"))) (cellA K (He.fAd K ("UnknownPair", some "__init__"))) "UnknownPair.__init__" (defArgs s_UnknownPair) (defBody s_UnknownPair) (defScope s_UnknownPair) ∧ ExcF K (He.ga K "UnknownPair") ∧ ∀ f ∈ flds, PySem.W.findIn K (.ref (He.ga K "UnknownPair")) f = some none := errB_ok (d := d_UnknownPair) bx_L T.pf (T.fx_ 0) (T.fe_at 23 rfl) rfl (T.fx_ 24 rfl)
theorem ie_UnknownPair : IsErr1 "UnknownPair.__init__" (defArgs s_UnknownPair) (defBody s_UnknownPair) (defScope s_UnknownPair) "UnknownPair" "given" := ⟨⟨_, _, _, _, _, _, _, _, _, _, _, _, _, _, _, _, rfl, fun _ _ _ _ => ⟨_, rfl⟩⟩, fun _ _ _ _ _ _ _ _ _ _ => rfl, fun _ _ _ _ _ _ _ _ _ _ => rfl, by decide, by decide, by decide, rfl, ⟨_, rfl, rfl⟩, rfl, rfl, rfl, by decide, rfl, rfl, rfl, by decide +kernel⟩
theorem ec_UnknownNote (T : Tx P K mg) : ErrC P K (He.ga K "UnknownNote") "LookupError" "LookupError.__new__" "LookupError.__init__" [.type "LookupError", .type "Exception", .type "BaseException", .type "object"] (He.fAd K ("UnknownNote", some "__init__")) (codeA K (He.fAd K ("UnknownNote", some "__init__"))) (cellA K (He.fAd K ("UnknownNote", some "__init__"))) "UnknownNote.__init__" (defArgs s_UnknownNote) (defBody s_UnknownNote) (defScope s_UnknownNote) ∧ ExcF K (He.ga K "UnknownNote") ∧ ∀ f ∈ flds, PySem.W.findIn K (.ref (He.ga K "UnknownNote")) f = some none := errB_ok (d := d_UnknownNote) bx_L T.pf (T.fx_ 0) (T.fe_at 24 rfl) rfl (T.fx_ 25 rfl)
theorem ie_UnknownNote : IsErr1 "UnknownNote.__init__" (defArgs s_UnknownNote) (defBody s_UnknownNote) (defScope s_UnknownNote) "UnknownNote" "stamp" := ⟨⟨_, _, _, _, _, _, _, _, _, _, _, _, _, _, _, _, rfl, fun _ _ _ _ => ⟨_, rfl⟩⟩, fun _ _ _ _ _ _ _ _ _ _ => rfl, fun _ _ _ _ _ _ _ _ _ _ => rfl, by decide, by decide, by decide, rfl, ⟨_, rfl, rfl⟩, rfl, rfl, rfl, by decide, rfl, rfl, rfl, by decide +kernel⟩
theorem ec_NothingLeft (T : Tx P K mg) : ErrC P K (He.ga K "NothingLeft") "IndexError" "IndexError.__new__" "IndexError.__init__" [.type "IndexError", .type "LookupError", .type "Exception", .type "BaseException", .type "object"] (He.fAd K ("NothingLeft", some "__init__")) (codeA K (He.fAd K ("NothingLeft", some "__init__"))) (cellA K (He.fAd K ("NothingLeft", some "__init__"))) "NothingLeft.__init__" (defArgs s_NothingLeft) (defBody s_NothingLeft) (defScope s_NothingLeft) ∧ ExcF K (He.ga K "NothingLeft") ∧ ∀ f ∈ flds, PySem.W.findIn K (.ref (He.ga K "NothingLeft")) f = some none := errB_ok (d := d_NothingLeft) bx_I T.pf (T.fx_ 0) (T.fe_at 25 rfl) rfl (T.fx_ 26 rfl)
theorem ie_NothingLeft : IsErr0 "NothingLeft.__init__" (defArgs s_NothingLeft) (defBody s_NothingLeft) (defScope s_NothingLeft) "NothingLeft" := ⟨⟨_, _, _, _, _, _, _, _, _, _, _, _, rfl, fun _ _ _ _ => ⟨_, rfl⟩⟩, fun _ _ _ _ _ _ _ _ _ => rfl, ⟨_, rfl, rfl⟩, rfl, rfl, rfl, by decide, rfl, rfl, rfl, by decide +kernel⟩
theorem xe (T : Tx P K mg) : ∀ C ∈ errs, ExcF K (He.ga K C) ∧ ∀ f ∈ flds, PySem.W.findIn K (.ref (He.ga K C)) f = some none := by
  intro C hC
  simp only [errs, List.mem_cons, List.not_mem_nil, or_false] at hC
  rcases hC with rfl | rfl | rfl | rfl | rfl | rfl | rfl | rfl | rfl | rfl | rfl | rfl | rfl | rfl | rfl | rfl | rfl | rfl | rfl | rfl | rfl | rfl | rfl | rfl | rfl | rfl
  · exact (ec_InvalidName T).2
  · exact (ec_InvalidWord T).2
  · exact (ec_InvalidStamp T).2
  · exact (ec_InvalidKey T).2
  · exact (ec_InvalidTest T).2
  · exact (ec_InvalidClause T).2
  · exact (ec_InvalidSources T).2
  · exact (ec_InvalidFate T).2
  · exact (ec_InvalidText T).2
  · exact (ec_InvalidPair T).2
  · exact (ec_InvalidLook T).2
  · exact (ec_InvalidDeed T).2
  · exact (ec_InvalidLimit T).2
  · exact (ec_DuplicateName T).2
  · exact (ec_DuplicateStamp T).2
  · exact (ec_DuplicateKey T).2
  · exact (ec_SameStamp T).2
  · exact (ec_SameCard T).2
  · exact (ec_OtherSources T).2
  · exact (ec_OtherDevice T).2
  · exact (ec_Stuck T).2
  · exact (ec_Full T).2
  · exact (ec_UnknownName T).2
  · exact (ec_UnknownPair T).2
  · exact (ec_UnknownNote T).2
  · exact (ec_NothingLeft T).2
theorem xf (T : Tx P K mg) {f : Str} (hf : f ∈ flds) : XfOk K errs f := fun C hC => ⟨(xe T C hC).1, (xe T C hC).2 f hf⟩

end
end L2.Dl
namespace L2.Dl
open PySem PySem.Spec PyProof.Rows
section
variable {P : Program} {w : World} {K : PySem.W.Frag} {mg : Str → Option Value} {base : Heap}
theorem io (T : Tx P K mg) : IsOk K objs errs (mroT isM isC) := by
  refine isOk_of (T.fx_ 27 rfl) (fun C hC => ?_) (fun C hC => (xe T C hC).1)
  exact nomatch hC

end
end L2.Dl
namespace L2.Dl
open PySem PySem.Spec PyProof.Rows
section
variable {P : Program} {w : World} {K : PySem.W.Frag} {mg : Str → Option Value} {base : Heap}
def N__law_bag : List Str := ["_law_script"]
theorem sc__law_bag : FnScope N__law_bag ["_law_script"] (defScope s__law_bag) := ⟨rfl, rfl, rfl, by decide +kernel, rfl, by decide +kernel, by decide +kernel⟩
theorem fd__law_bag (T : Tx P K mg) : ∃ fd, FunD K "_law_bag" "_law_bag" (defArgs s__law_bag) (defBody s__law_bag) (defScope s__law_bag) [] [] (He.fAd K ("_law_bag", none)) fd := T.says.def_ 0 (d := d__law_bag) rfl
theorem kp__law_bag (T : Tx P K mg) : PySem.W.keepIn K (.ref (He.fAd K ("_law_bag", none))) = true := (fd__law_bag T).elim fun _ F => F.kp
def t__law_bag_0 : TSD := (dRet (dLstM (dCons (dCB dListC (dCons (dSl (dVar 0) dNoPart (dPart (dC (.int 63)))) dNil)) (dCons (dC (.int 0)) (dCons (dC (.int 0)) (dCons (dC (.int 100261)) (dCons (dC (.int 0)) dNil)))))))
theorem ok__law_bag (T : Tx P K mg) {fd : FuncData} (F : FunD K "_law_bag" "_law_bag" (defArgs s__law_bag) (defBody s__law_bag) (defScope s__law_bag) [] [] (He.fAd K ("_law_bag", none)) fd) : FnOk P w K mg base (L2.CX P w) (1) (He.fAd K ("_law_bag", none)) fd ["_law_script"] (spOf K spBag) := by
  refine (fnok_newBag (fn_d (k := 0) (sp := (fun xs M Z Q => ∃ ns : List Int, xs = [.scr ns] ∧ ∀ g ys, g ∉ keys M → BagL ys → Q (.ref g) ((g, .lst ys) :: M))) (t := t__law_bag_0) F sc__law_bag (fun X cdv A outer s H E hX hr hp => by
    subst hX
    exact (s_one (s_ret (d_lstM (ad_cons (d_callTy k_list (T.free (T.says.fact 0 rfl)) bt_list (ad_cons (d_slice (d_v 0) od_none (od_some d_int)) ad_nil)) (ad_cons d_int (ad_cons d_int (ad_cons d_int (ad_cons d_int ad_nil))))))))) (fun xs M Z Q h => ?_)) (sp' := spBag) (fun xs M Z Q h => ?_))
  · obtain ⟨ns, rfl, q⟩ := h
    refine ⟨rfl, ?_⟩
    simp [N__law_bag, t__law_bag_0]
    refine ⟨size_le (by decide), fun p hp => q p _ (fun z => ?_) ⟨cutD ns none (some 63), 0, 0, 100261, 0, rfl, ?_, by decide, by decide, by decide, by decide, by decide⟩⟩
    · obtain ⟨x, hx, e⟩ := List.mem_map.mp z
      subst e
      exact hp _ hx
    · unfold cutD
      rw [List.length_take]
      have : HT.sIx ns.length ns.length (some 63) ≤ 63 := by unfold HT.sIx; simp; omega
      omega
  · obtain ⟨ns, rfl, q⟩ := h
    exact ⟨ns, rfl, fun g ys hn b => ⟨g, ys, b, hn, rfl, rfl, q g hn⟩⟩
theorem fs__law_bag (T : Tx P K mg) : FnS P w K mg base (1) (He.fAd K ("_law_bag", none)) [] (fun xs _ M Z Q => spBag xs M Z Q) := by
  obtain ⟨fd, F⟩ := fd__law_bag T
  exact fns_all (ok__law_bag T F) (F.bindsN fun _ _ _ _ _ _ us hl => match us, hl with | [_], _ => rfl)

end
end L2.Dl
namespace L2.Dl
open PySem PySem.Spec PyProof.Rows
section
variable {P : Program} {w : World} {K : PySem.W.Frag} {mg : Str → Option Value} {base : Heap}
theorem pick_leaf {M : MM} {g : Addr} {Q : QD} {n : Int} (q : ∀ r zs, 0 ≤ r → r < n → BagL zs → Q (.int r) (put M g (.lst zs))) (hn : 0 < n) {ns : List Int} (hl : ns.length ≤ 63) {x i k m c : Int} (hi : 0 ≤ i) (hk : 0 ≤ k) (hm : 0 ≤ m) (hm2 : m < 2147483579) (hc : 0 ≤ c) :
    Q (.int (x % n)) (put M g (.lst [.lst (ns.map D.int), .int i, .int k, .int m, .int c])) :=
  q _ _ (Int.emod_nonneg _ (by omega)) (Int.emod_lt_of_pos _ hn) ⟨ns, i, k, m, c, rfl, hl, hi, hk, hm, hm2, hc⟩

end
end L2.Dl
namespace L2.Dl
open PySem PySem.Spec PyProof.Rows
section
variable {P : Program} {w : World} {K : PySem.W.Frag} {mg : Str → Option Value} {base : Heap}
def N__law_pick : List Str := ["_law_bag_here", "_law_many", "_law_cell", "_law_digit", "_law_twice"]
theorem sc__law_pick : FnScope N__law_pick ["_law_bag_here", "_law_many"] (defScope s__law_pick) := ⟨rfl, rfl, rfl, by decide +kernel, rfl, by decide +kernel, by decide +kernel⟩
theorem fd__law_pick (T : Tx P K mg) : ∃ fd, FunD K "_law_pick" "_law_pick" (defArgs s__law_pick) (defBody s__law_pick) (defScope s__law_pick) [] [] (He.fAd K ("_law_pick", none)) fd := T.says.def_ 1 (d := d__law_pick) rfl
theorem kp__law_pick (T : Tx P K mg) : PySem.W.keepIn K (.ref (He.fAd K ("_law_pick", none))) = true := (fd__law_pick T).elim fun _ F => F.kp
def t__law_pick_5 : TSD := (dSetIx (dVar 0) (dC (.int 3)) (dOp dMod (dCB dIntC (dCons (dOp dAdd (dOp dAdd (dOp dMul (dOp dIx (dVar 0) (dC (.int 3))) (dC (.int 52361))) (dOp dMul (dOp dMod (dCB dIntC (dCons (dVar 2) dNil)) (dC (.int 1000003))) (dC (.int 811)))) (dC (.int 71))) dNil)) (dC (.int 2147483579))))
def t__law_pick_4 : TSD := dSeq (dSetIx (dVar 0) (dC (.int 2)) (dIf (dTest (dOp dGe (dVar 2) (dOp dPow (dC (.int 10)) (dC (.int 18))))) (dVar 2) (dC (.int 0)))) t__law_pick_5
def t__law_pick_3 : TSD := dSeq (dSetIx (dVar 0) (dC (.int 1)) (dOp dAdd (dOp dIx (dVar 0) (dC (.int 1))) (dC (.int 1)))) t__law_pick_4
def t__law_pick_2 : TSD := dSeq (dSet (dCB dAbs (dCons (dOp dIx (dOp dIx (dVar 0) (dC (.int 0))) (dOp dIx (dVar 0) (dC (.int 1)))) dNil)) 2) t__law_pick_3
def t__law_pick_9 : TSD := (dRet (dVar 3))
def t__law_pick_8 : TSD := dSeq (dSetIx (dVar 0) (dC (.int 2)) (dOp dFdiv (dOp dIx (dVar 0) (dC (.int 2))) (dVar 1))) t__law_pick_9
def t__law_pick_7 : TSD := dSeq (dSet (dOp dMod (dCB dIntC (dCons (dOp dIx (dVar 0) (dC (.int 2))) dNil)) (dVar 1)) 3) t__law_pick_8
def t__law_pick_12 : TSD := (dRet (dOp dMod (dCB dIntC (dCons (dOp dFdiv (dOp dIx (dVar 0) (dC (.int 3))) (dC (.int 67))) dNil)) (dVar 1)))
def t__law_pick_11 : TSD := dSeq (dSetIx (dVar 0) (dC (.int 3)) (dOp dMod (dCB dIntC (dCons (dOp dAdd (dOp dAdd (dOp dMul (dVar 4) (dC (.int 17077))) (dOp dMul (dOp dIx (dVar 0) (dC (.int 3))) (dC (.int 45317)))) (dC (.int 9001))) dNil)) (dC (.int 2147483579)))) t__law_pick_12
def t__law_pick_10 : TSD := dSeq (dSet (dOp dMod (dCB dIntC (dCons (dOp dAdd (dOp dMul (dOp dIx (dVar 0) (dC (.int 3))) (dOp dIx (dVar 0) (dC (.int 3)))) (dOp dMul (dOp dIx (dVar 0) (dC (.int 4))) (dC (.int 6173)))) dNil)) (dC (.int 2147483563))) 4) t__law_pick_11
def t__law_pick_6 : TSD := dSeq (dIfS (dTest (dOp dGt (dOp dIx (dVar 0) (dC (.int 2))) (dC (.int 0)))) t__law_pick_7 dNext) t__law_pick_10
def t__law_pick_1 : TSD := dSeq (dIfS (dAnd (dTest (dOp dEq (dOp dIx (dVar 0) (dC (.int 2))) (dC (.int 0)))) (dTest (dOp dLt (dOp dIx (dVar 0) (dC (.int 1))) (dCB dLen (dCons (dOp dIx (dVar 0) (dC (.int 0))) dNil))))) t__law_pick_2 dNext) t__law_pick_6
def t__law_pick_0 : TSD := dSeq (dSetIx (dVar 0) (dC (.int 4)) (dOp dAdd (dOp dIx (dVar 0) (dC (.int 4))) (dC (.int 1)))) t__law_pick_1
theorem ok__law_pick (T : Tx P K mg) {fd : FuncData} (F : FunD K "_law_pick" "_law_pick" (defArgs s__law_pick) (defBody s__law_pick) (defScope s__law_pick) [] [] (He.fAd K ("_law_pick", none)) fd) : FnOk P w K mg base (L2.CX P w) (1) (He.fAd K ("_law_pick", none)) fd ["_law_bag_here", "_law_many"] (spOf K spPick) := by
  refine (fnok_bag (fn_d (k := 0) (sp := (fun xs M Z Q => ∃ (g : Addr) (n : Int) (ys : List D), xs = [.ref g, .int n] ∧ M.lookup g = some (.lst ys) ∧ BagL ys ∧ 0 < n ∧ n ≤ 2 ^ 60 ∧ ∀ r zs, 0 ≤ r → r < n → BagL zs → Q (.int r) (put M g (.lst zs)))) (t := t__law_pick_0) F sc__law_pick (fun X cdv A outer s H E hX hr hp => by
    subst hX
    exact (s_cons (s_setIx (d_op o_add (d_ix (d_v 0) d_int) d_int) (d_v 0) d_int)
    (s_cons (s_if (PWD.pt (w_and (d_tcmp (c_eq hr.units) (d_ix (d_v 0) d_int) d_int (nomark _)) (w_and1 (d_tcmp c_lt (d_ix (d_v 0) d_int) (d_callB k_len (T.free (T.says.fact 1 rfl)) bf_len (ad_cons (d_ix (d_v 0) d_int) ad_nil)) (nomark _)))))
    (s_cons (s_set (i := 2) sc__law_pick.nd rfl (.inl rfl) (d_callB k_abs (T.free (T.says.fact 2 rfl)) bf_abs (ad_cons (d_ix (d_ix (d_v 0) d_int) (d_ix (d_v 0) d_int)) ad_nil)))
    (s_cons (s_setIx (d_op o_add (d_ix (d_v 0) d_int) d_int) (d_v 0) d_int)
    (s_cons (s_setIx (d_if (d_tcmp c_ge (d_v 2) (d_op o_pow d_int d_int) (nomark _)) (d_v 2) d_int) (d_v 0) d_int)
    (s_one (s_setIx (d_op o_mod (d_callTy k_int (T.free (T.says.fact 3 rfl)) bt_int (ad_cons (d_op o_add (d_op o_add (d_op o_mul (d_ix (d_v 0) d_int) d_int) (d_op o_mul (d_op o_mod (d_callTy k_int (T.free (T.says.fact 3 rfl)) bt_int (ad_cons (d_v 2) ad_nil)) d_int) d_int)) d_int) ad_nil)) d_int) (d_v 0) d_int)))))
    s_nil)
    (s_cons (s_if (d_tcmp c_gt (d_ix (d_v 0) d_int) d_int (nomark _))
    (s_cons (s_set (i := 3) sc__law_pick.nd rfl (.inl rfl) (d_op o_mod (d_callTy k_int (T.free (T.says.fact 3 rfl)) bt_int (ad_cons (d_ix (d_v 0) d_int) ad_nil)) (d_v 1)))
    (s_cons (s_setIx (d_op o_fdiv (d_ix (d_v 0) d_int) (d_v 1)) (d_v 0) d_int)
    (s_one (s_ret (d_v 3)))))
    s_nil)
    (s_cons (s_set (i := 4) sc__law_pick.nd rfl (.inl rfl) (d_op o_mod (d_callTy k_int (T.free (T.says.fact 3 rfl)) bt_int (ad_cons (d_op o_add (d_op o_mul (d_ix (d_v 0) d_int) (d_ix (d_v 0) d_int)) (d_op o_mul (d_ix (d_v 0) d_int) d_int)) ad_nil)) d_int))
    (s_cons (s_setIx (d_op o_mod (d_callTy k_int (T.free (T.says.fact 3 rfl)) bt_int (ad_cons (d_op o_add (d_op o_add (d_op o_mul (d_v 4) d_int) (d_op o_mul (d_ix (d_v 0) d_int) d_int)) d_int) ad_nil)) d_int) (d_v 0) d_int)
    (s_one (s_ret (d_op o_mod (d_callTy k_int (T.free (T.says.fact 3 rfl)) bt_int (ad_cons (d_op o_fdiv (d_ix (d_v 0) d_int) d_int) ad_nil)) (d_v 1)))))))))) (fun xs M Z Q h => ?_)) (sp' := spPick) (fun xs M Z Q h => ?_))
  · obtain ⟨g, n, ys, rfl, e, ⟨ns, i, k, m, c, rfl, hl, hi, hk, hm, hm2, hc⟩, hn, hn2, q⟩ := h
    refine ⟨rfl, ?_⟩
    have e2 := fun mo' => lookup_put (mo' := mo') e
    have hn3 : n ≤ 1152921504606846976 := hn2
    have hd : ∀ z : Int, 0 ≤ z → 0 ≤ z / n := fun z hz => Int.ediv_nonneg hz (by omega)
    simp [N__law_pick, t__law_pick_0, t__law_pick_1, t__law_pick_2, t__law_pick_3, t__law_pick_4, t__law_pick_5, t__law_pick_6, t__law_pick_7, t__law_pick_8, t__law_pick_9, t__law_pick_10, t__law_pick_11, t__law_pick_12, e, e2, L2.atI, ixN]
    refine cut_go ?_
    by_cases h0 : k = 0
    · by_cases h1 : i < (ns.length : Int)
      · have hlt : i.toNat < ns.length := by omega
        simp [t__law_pick_0, t__law_pick_1, t__law_pick_2, t__law_pick_3, t__law_pick_4, t__law_pick_5, t__law_pick_6, t__law_pick_7, t__law_pick_8, t__law_pick_9, t__law_pick_10, t__law_pick_11, t__law_pick_12, e, e2, L2.atI, ixN, h0, h1, hi, hlt]
        generalize ns[i.toNat] = v
        have ha : 0 ≤ (if v < 0 then -v else v) := by split <;> omega
        generalize (if v < 0 then -v else v) = a at ha ⊢
        refine cut_go ?_
        simp [t__law_pick_0, t__law_pick_1, t__law_pick_2, t__law_pick_3, t__law_pick_4, t__law_pick_5, t__law_pick_6, t__law_pick_7, t__law_pick_8, t__law_pick_9, t__law_pick_10, t__law_pick_11, t__law_pick_12, e, e2, L2.atI, ixN]
        refine cut_go ?_
        by_cases h2 : 1000000000000000000 ≤ a
        · have h3 : 0 < a := by omega
          simp [t__law_pick_0, t__law_pick_1, t__law_pick_2, t__law_pick_3, t__law_pick_4, t__law_pick_5, t__law_pick_6, t__law_pick_7, t__law_pick_8, t__law_pick_9, t__law_pick_10, t__law_pick_11, t__law_pick_12, e, e2, L2.atI, ixN, h2]
          refine cut_go ?_
          simp [t__law_pick_0, t__law_pick_1, t__law_pick_2, t__law_pick_3, t__law_pick_4, t__law_pick_5, t__law_pick_6, t__law_pick_7, t__law_pick_8, t__law_pick_9, t__law_pick_10, t__law_pick_11, t__law_pick_12, e, e2, L2.atI, ixN]
          refine cut_go ?_
          simp [t__law_pick_0, t__law_pick_1, t__law_pick_2, t__law_pick_3, t__law_pick_4, t__law_pick_5, t__law_pick_6, t__law_pick_7, t__law_pick_8, t__law_pick_9, t__law_pick_10, t__law_pick_11, t__law_pick_12, e, e2, L2.atI, ixN, h3, hn]
          refine cut_go ?_
          simp [t__law_pick_0, t__law_pick_1, t__law_pick_2, t__law_pick_3, t__law_pick_4, t__law_pick_5, t__law_pick_6, t__law_pick_7, t__law_pick_8, t__law_pick_9, t__law_pick_10, t__law_pick_11, t__law_pick_12, e, e2, L2.atI, ixN, hn, hn3]
          refine cut_go ?_
          simp [t__law_pick_0, t__law_pick_1, t__law_pick_2, t__law_pick_3, t__law_pick_4, t__law_pick_5, t__law_pick_6, t__law_pick_7, t__law_pick_8, t__law_pick_9, t__law_pick_10, t__law_pick_11, t__law_pick_12, e, e2, L2.atI, ixN]
          exact pick_leaf q hn hl (by omega) (hd a ha) (by omega) (by omega) (by omega)
        · simp [t__law_pick_0, t__law_pick_1, t__law_pick_2, t__law_pick_3, t__law_pick_4, t__law_pick_5, t__law_pick_6, t__law_pick_7, t__law_pick_8, t__law_pick_9, t__law_pick_10, t__law_pick_11, t__law_pick_12, e, e2, L2.atI, ixN, h2]
          refine cut_go ?_
          simp [t__law_pick_0, t__law_pick_1, t__law_pick_2, t__law_pick_3, t__law_pick_4, t__law_pick_5, t__law_pick_6, t__law_pick_7, t__law_pick_8, t__law_pick_9, t__law_pick_10, t__law_pick_11, t__law_pick_12, e, e2, L2.atI, ixN]
          generalize hm' : (m * 52361 + a % 1000003 * 811 + 71) % 2147483579 = m'
          have hb1 : -18446744073709551616 < m' := by omega
          have hb2 : m' < 18446744073709551616 := by omega
          refine cut_go ?_
          simp [t__law_pick_0, t__law_pick_1, t__law_pick_2, t__law_pick_3, t__law_pick_4, t__law_pick_5, t__law_pick_6, t__law_pick_7, t__law_pick_8, t__law_pick_9, t__law_pick_10, t__law_pick_11, t__law_pick_12, e, e2, L2.atI, ixN]
          refine cut_go ?_
          simp [t__law_pick_0, t__law_pick_1, t__law_pick_2, t__law_pick_3, t__law_pick_4, t__law_pick_5, t__law_pick_6, t__law_pick_7, t__law_pick_8, t__law_pick_9, t__law_pick_10, t__law_pick_11, t__law_pick_12, e, e2, L2.atI, ixN, hb1, hb2]
          refine cut_go ?_
          simp [t__law_pick_0, t__law_pick_1, t__law_pick_2, t__law_pick_3, t__law_pick_4, t__law_pick_5, t__law_pick_6, t__law_pick_7, t__law_pick_8, t__law_pick_9, t__law_pick_10, t__law_pick_11, t__law_pick_12, e, e2, L2.atI, ixN]
          refine cut_go ?_
          simp [t__law_pick_0, t__law_pick_1, t__law_pick_2, t__law_pick_3, t__law_pick_4, t__law_pick_5, t__law_pick_6, t__law_pick_7, t__law_pick_8, t__law_pick_9, t__law_pick_10, t__law_pick_11, t__law_pick_12, e, e2, L2.atI, ixN, hn]
          exact pick_leaf q hn hl (by omega) (by omega) (by omega) (by omega) (by omega)
      · have hb1 : -18446744073709551616 < m := by omega
        have hb2 : m < 18446744073709551616 := by omega
        simp [t__law_pick_0, t__law_pick_1, t__law_pick_2, t__law_pick_3, t__law_pick_4, t__law_pick_5, t__law_pick_6, t__law_pick_7, t__law_pick_8, t__law_pick_9, t__law_pick_10, t__law_pick_11, t__law_pick_12, e, e2, L2.atI, ixN, h0, h1]
        refine cut_go ?_
        simp [t__law_pick_0, t__law_pick_1, t__law_pick_2, t__law_pick_3, t__law_pick_4, t__law_pick_5, t__law_pick_6, t__law_pick_7, t__law_pick_8, t__law_pick_9, t__law_pick_10, t__law_pick_11, t__law_pick_12, e, e2, L2.atI, ixN]
        refine cut_go ?_
        simp [t__law_pick_0, t__law_pick_1, t__law_pick_2, t__law_pick_3, t__law_pick_4, t__law_pick_5, t__law_pick_6, t__law_pick_7, t__law_pick_8, t__law_pick_9, t__law_pick_10, t__law_pick_11, t__law_pick_12, e, e2, L2.atI, ixN, hb1, hb2]
        refine cut_go ?_
        simp [t__law_pick_0, t__law_pick_1, t__law_pick_2, t__law_pick_3, t__law_pick_4, t__law_pick_5, t__law_pick_6, t__law_pick_7, t__law_pick_8, t__law_pick_9, t__law_pick_10, t__law_pick_11, t__law_pick_12, e, e2, L2.atI, ixN]
        refine cut_go ?_
        simp [t__law_pick_0, t__law_pick_1, t__law_pick_2, t__law_pick_3, t__law_pick_4, t__law_pick_5, t__law_pick_6, t__law_pick_7, t__law_pick_8, t__law_pick_9, t__law_pick_10, t__law_pick_11, t__law_pick_12, e, e2, L2.atI, ixN, hn]
        exact pick_leaf q hn hl (by omega) (by omega) (by omega) (by omega) (by omega)
    · have h2 : 0 < k := by omega
      simp [t__law_pick_0, t__law_pick_1, t__law_pick_2, t__law_pick_3, t__law_pick_4, t__law_pick_5, t__law_pick_6, t__law_pick_7, t__law_pick_8, t__law_pick_9, t__law_pick_10, t__law_pick_11, t__law_pick_12, e, e2, L2.atI, ixN, h0]
      refine cut_go ?_
      simp [t__law_pick_0, t__law_pick_1, t__law_pick_2, t__law_pick_3, t__law_pick_4, t__law_pick_5, t__law_pick_6, t__law_pick_7, t__law_pick_8, t__law_pick_9, t__law_pick_10, t__law_pick_11, t__law_pick_12, e, e2, L2.atI, ixN, h2, hn]
      refine cut_go ?_
      simp [t__law_pick_0, t__law_pick_1, t__law_pick_2, t__law_pick_3, t__law_pick_4, t__law_pick_5, t__law_pick_6, t__law_pick_7, t__law_pick_8, t__law_pick_9, t__law_pick_10, t__law_pick_11, t__law_pick_12, e, e2, L2.atI, ixN, hn, hn3]
      refine cut_go ?_
      simp [t__law_pick_0, t__law_pick_1, t__law_pick_2, t__law_pick_3, t__law_pick_4, t__law_pick_5, t__law_pick_6, t__law_pick_7, t__law_pick_8, t__law_pick_9, t__law_pick_10, t__law_pick_11, t__law_pick_12, e, e2, L2.atI, ixN]
      exact pick_leaf q hn hl (by omega) (hd k hk) (by omega) (by omega) (by omega)
  · obtain ⟨g, n, rfl, e, hn, hn2, q⟩ := h
    exact ⟨g, e, fun ds b => ⟨g, n, ds, rfl, lookup_put e, b, hn, hn2, fun r zs h0 h1 bz => ⟨zs, bz, by rw [put_put], q r h0 h1⟩⟩⟩
theorem fs__law_pick (T : Tx P K mg) : FnS P w K mg base (1) (He.fAd K ("_law_pick", none)) [] (fun xs _ M Z Q => spPick xs M Z Q) := by
  obtain ⟨fd, F⟩ := fd__law_pick T
  exact fns_all (ok__law_pick T F) (F.bindsN fun _ _ _ _ _ _ us hl => match us, hl with | [_, _], _ => rfl)

end
end L2.Dl
namespace L2.Dl
open PySem PySem.Spec PyProof.Rows
section
variable {P : Program} {w : World} {K : PySem.W.Frag} {mg : Str → Option Value} {base : Heap}
def N__law_of : List Str := ["_law_bag_here", "_law_things"]
theorem sc__law_of : FnScope N__law_of ["_law_bag_here", "_law_things"] (defScope s__law_of) := ⟨rfl, rfl, rfl, by decide +kernel, rfl, by decide +kernel, by decide +kernel⟩
theorem fd__law_of (T : Tx P K mg) : ∃ fd, FunD K "_law_of" "_law_of" (defArgs s__law_of) (defBody s__law_of) (defScope s__law_of) [] [] (He.fAd K ("_law_of", none)) fd := T.says.def_ 2 (d := d__law_of) rfl
theorem kp__law_of (T : Tx P K mg) : PySem.W.keepIn K (.ref (He.fAd K ("_law_of", none))) = true := (fd__law_of T).elim fun _ F => F.kp
def t__law_of_0 : TSD := (dRet (dOp dIx (dVar 1) (dCallS (fun xs _ M Z Q => spPick xs M Z Q) (dCons (dVar 0) (dCons (dCB dLen (dCons (dVar 1) dNil)) dNil)) dNil)))
theorem ok__law_of (T : Tx P K mg) {fd : FuncData} (F : FunD K "_law_of" "_law_of" (defArgs s__law_of) (defBody s__law_of) (defScope s__law_of) [] [] (He.fAd K ("_law_of", none)) fd) : FnOk P w K mg base (L2.CX P w) (2) (He.fAd K ("_law_of", none)) fd ["_law_bag_here", "_law_things"] (spOf K spOfD) := by
  refine (fn_d (k := 1) (sp := spOfD) (t := t__law_of_0) F sc__law_of (fun X cdv A outer s H E hX hr hp => by
    subst hX
    exact (s_one (s_ret (d_ix (d_v 1) (d_call (cal_fn (fs__law_pick T) (hr.mono (by omega))) (kp__law_pick T) (T.glo (T.says.fact 4 rfl)) (ad_cons (d_v 0) (ad_cons (d_callB k_len (T.free (T.says.fact 1 rfl)) bf_len (ad_cons (d_v 1) ad_nil)) ad_nil))))))) (fun xs M Z Q h => ?_))
  obtain ⟨g, d, ys, rfl, hg, hi, h0, hl, q⟩ := h
  refine ⟨rfl, ?_⟩
  simp [N__law_of, t__law_of_0, -dLen_eq, -dIx_eq]
  refine itemsOf_len hi hl ⟨g, _, rfl, hg, by omega, by omega, fun r h1 h2 => itemsOf_ix hi hl h1 h2 q⟩
theorem fs__law_of (T : Tx P K mg) : FnS P w K mg base (2) (He.fAd K ("_law_of", none)) [] (fun xs _ M Z Q => spOfD xs M Z Q) := by
  obtain ⟨fd, F⟩ := fd__law_of T
  exact fns_all (ok__law_of T F) (F.bindsN fun _ _ _ _ _ _ us hl => match us, hl with | [_, _], _ => rfl)

end
end L2.Dl
namespace L2.Dl
open PySem PySem.Spec PyProof.Rows
section
variable {P : Program} {w : World} {K : PySem.W.Frag} {mg : Str → Option Value} {base : Heap}
def N__law_like : List Str := ["_law_found", "_law_due", "_law_one", "_law_other"]
theorem sc__law_like : FnScope N__law_like ["_law_found", "_law_due"] (defScope s__law_like) := ⟨rfl, rfl, rfl, by decide +kernel, rfl, by decide +kernel, by decide +kernel⟩
theorem fd__law_like (T : Tx P K mg) : ∃ fd, FunD K "_law_like" "_law_like" (defArgs s__law_like) (defBody s__law_like) (defScope s__law_like) [] [] (He.fAd K ("_law_like", none)) fd := T.says.def_ 3 (d := d__law_like) rfl
theorem kp__law_like (T : Tx P K mg) : PySem.W.keepIn K (.ref (He.fAd K ("_law_like", none))) = true := (fd__law_like T).elim fun _ F => F.kp
def t__law_like_2 (n : Nat) : TSD := (dRet (dC (.bl false)))
def t__law_like_3 (n : Nat) : TSD := (dRet (dAndV (dOp dEq (dCB dLen (dCons (dVar 0) dNil)) (dCB dLen (dCons (dVar 1) dNil))) (dCB (dAllG fun bs => bs.all id) (dCons (dLc (iZipD (dVar 0) (dVar 1)) (.tup [2, 3]) dYes (dCallS (fun xs _ M Z Q => likeSp' n xs M Z Q) (dCons (dVar 2) (dCons (dVar 3) dNil)) dNil) [2, 3]) dNil))))
def t__law_like_1 (n : Nat) : TSD := dSeq (dIfS (dOr (dTest (dOp dNe (dCB dIsi (dCons (dVar 0) (dCons (dC (.ty "list")) dNil))) (dCB dIsi (dCons (dVar 1) (dCons (dC (.ty "list")) dNil))))) (dTest (dOp dNe (dCB dIsi (dCons (dVar 0) (dCons (dC (.ty "tuple")) dNil))) (dCB dIsi (dCons (dVar 1) (dCons (dC (.ty "tuple")) dNil)))))) (t__law_like_2 n) dNext) (t__law_like_3 n)
def t__law_like_5 (n : Nat) : TSD := (dRet (dAndV (dOp dIs (dVar 1) (dC .non)) (dOp dIs (dVar 0) (dC .non))))
def t__law_like_7 (n : Nat) : TSD := (dRet (dC (.bl false)))
def t__law_like_8 (n : Nat) : TSD := (dRet (dAndV (dOp dEq (dCB dIsi (dCons (dVar 0) (dCons (dC (.ty "str")) dNil))) (dCB dIsi (dCons (dVar 1) (dCons (dC (.ty "str")) dNil)))) (dOp dEq (dVar 0) (dVar 1))))
def t__law_like_6 (n : Nat) : TSD := dSeq (dIfS (dOr (dTest (dOp dNe (dCB dIsi (dCons (dVar 0) (dCons (dC (.ty "bool")) dNil))) (dCB dIsi (dCons (dVar 1) (dCons (dC (.ty "bool")) dNil))))) (dTest (dOp dNe (dCB dIsi (dCons (dVar 0) (dCons (dC (.ty "int")) dNil))) (dCB dIsi (dCons (dVar 1) (dCons (dC (.ty "int")) dNil)))))) (t__law_like_7 n) dNext) (t__law_like_8 n)
def t__law_like_4 (n : Nat) : TSD := dSeq (dIfS (dOr (dTest (dOp dIs (dVar 1) (dC .non))) (dTest (dOp dIs (dVar 0) (dC .non)))) (t__law_like_5 n) dNext) (t__law_like_6 n)
def t__law_like_0 (n : Nat) : TSD := dSeq (dIfS (dTest (dCB dIsi (dCons (dVar 1) (dCons (dTup (dCons (dC (.ty "list")) (dCons (dC (.ty "tuple")) dNil))) dNil)))) (t__law_like_1 n) dNext) (t__law_like_4 n)
theorem ok_like_step (T : Tx P K mg) (n : Nat) (ih : FnS P w K mg base n (He.fAd K ("_law_like", none)) [] (fun xs _ M Z Q => likeSp' n xs M Z Q)) {fd : FuncData} (F : FunD K "_law_like" "_law_like" (defArgs s__law_like) (defBody s__law_like) (defScope s__law_like) [] [] (He.fAd K ("_law_like", none)) fd) : FnOk P w K mg base (L2.CX P w) (n + 1) (He.fAd K ("_law_like", none)) fd ["_law_found", "_law_due"] (spOf K (likeSp n)) := by
  refine (fn_d (k := n) (sp := (likeSp n)) (t := (t__law_like_0 n)) F sc__law_like (fun X cdv A outer s H E hX hr hp => by
    subst hX
    exact (s_cons (s_if (d_tval (d_callB k_isi (T.free (T.says.fact 6 rfl)) bf_isinstance (ad_cons (d_v 1) (ad_cons (d_tup (ad_cons (d_ty (T.free (T.says.fact 0 rfl)) bt_list) (ad_cons (d_ty (T.free (T.says.fact 5 rfl)) bt_tuple) ad_nil))) ad_nil))))
    (s_cons (s_if (PWD.pt (w_or (d_tcmp (c_ne hr.units) (d_callB k_isi (T.free (T.says.fact 6 rfl)) bf_isinstance (ad_cons (d_v 0) (ad_cons (d_ty (T.free (T.says.fact 0 rfl)) bt_list) ad_nil))) (d_callB k_isi (T.free (T.says.fact 6 rfl)) bf_isinstance (ad_cons (d_v 1) (ad_cons (d_ty (T.free (T.says.fact 0 rfl)) bt_list) ad_nil))) (nomark _)) (w_or1 (d_tcmp (c_ne hr.units) (d_callB k_isi (T.free (T.says.fact 6 rfl)) bf_isinstance (ad_cons (d_v 0) (ad_cons (d_ty (T.free (T.says.fact 5 rfl)) bt_tuple) ad_nil))) (d_callB k_isi (T.free (T.says.fact 6 rfl)) bf_isinstance (ad_cons (d_v 1) (ad_cons (d_ty (T.free (T.says.fact 5 rfl)) bt_tuple) ad_nil))) (nomark _)))))
    (s_one (s_ret d_bl))
    s_nil)
    (s_one (s_ret (d_and (d_cmp (c_eq hr.units) (d_callB k_len (T.free (T.says.fact 1 rfl)) bf_len (ad_cons (d_v 0) ad_nil)) (d_callB k_len (T.free (T.says.fact 1 rfl)) bf_len (ad_cons (d_v 1) ad_nil)) (nomark _)) (d_one (d_callB (k_all rfl) (T.free (T.says.fact 9 rfl)) bf_all (ad_cons (d_lc (own := [("_law_one", 2), ("_law_other", 3)]) (g := .tup [2, 3]) rfl sc__law_like.nd (i_zip (T.free (T.says.fact 7 rfl)) (d_v 0) (d_v 1)) (blkOk_by (own := [("_law_one", 2), ("_law_other", 3)]) (N := N__law_like) (sc := defScope s__law_like) (by decide +kernel))
      (fun _ _ _ _ _ => pg_tup rfl (pgs_cons (pg_name (i := 2) sc__law_like.nd rfl (Or.inl rfl)) (pgs_cons (pg_name (i := 3) sc__law_like.nd rfl (Or.inl rfl)) pgs_nil))) (fun _ _ _ _ _ => ts_nil) (fun _ _ _ _ _ => (d_call (cal_fn ih (hr.mono (by omega))) (kp__law_like T) (T.glo (T.says.fact 8 rfl)) (ad_cons (d_v 2) (ad_cons (d_v 3) ad_nil))))) ad_nil)))))))
    s_nil)
    (s_cons (s_if (PWD.pt (w_or (d_tcmp c_is (d_v 1) d_non (nomark _)) (w_or1 (d_tcmp c_is (d_v 0) d_non (nomark _)))))
    (s_one (s_ret (d_and (d_cmp c_is (d_v 1) d_non (nomark _)) (d_one (d_cmp c_is (d_v 0) d_non (nomark _))))))
    s_nil)
    (s_cons (s_if (PWD.pt (w_or (d_tcmp (c_ne hr.units) (d_callB k_isi (T.free (T.says.fact 6 rfl)) bf_isinstance (ad_cons (d_v 0) (ad_cons (d_ty (T.free (T.says.fact 10 rfl)) bt_bool) ad_nil))) (d_callB k_isi (T.free (T.says.fact 6 rfl)) bf_isinstance (ad_cons (d_v 1) (ad_cons (d_ty (T.free (T.says.fact 10 rfl)) bt_bool) ad_nil))) (nomark _)) (w_or1 (d_tcmp (c_ne hr.units) (d_callB k_isi (T.free (T.says.fact 6 rfl)) bf_isinstance (ad_cons (d_v 0) (ad_cons (d_ty (T.free (T.says.fact 3 rfl)) bt_int) ad_nil))) (d_callB k_isi (T.free (T.says.fact 6 rfl)) bf_isinstance (ad_cons (d_v 1) (ad_cons (d_ty (T.free (T.says.fact 3 rfl)) bt_int) ad_nil))) (nomark _)))))
    (s_one (s_ret d_bl))
    s_nil)
    (s_one (s_ret (d_and (d_cmp (c_eq hr.units) (d_callB k_isi (T.free (T.says.fact 6 rfl)) bf_isinstance (ad_cons (d_v 0) (ad_cons (d_ty (T.free (T.says.fact 11 rfl)) bt_str) ad_nil))) (d_callB k_isi (T.free (T.says.fact 6 rfl)) bf_isinstance (ad_cons (d_v 1) (ad_cons (d_ty (T.free (T.says.fact 11 rfl)) bt_str) ad_nil))) (nomark _)) (d_one (d_cmp (c_eq hr.units) (d_v 0) (d_v 1) (nomark _)))))))))) (fun xs M Z Q h => ?_))
  obtain ⟨d, rfl, hd, q⟩ := h
  refine ⟨rfl, ?_⟩
  cases d with
  | lst xs =>
    cases n with
    | zero => cases hd
    | succ n =>
      have hd := Bool.and_eq_true_iff.mp (show (decide (xs.length ≤ 100000) && xs.all (plainD n)) = true from hd)
      have hl := of_decide_eq_true hd.1
      simp [N__law_like, sizeLine_eq, cut_eq, t__law_like_0, t__law_like_1, t__law_like_2, t__law_like_3, t__law_like_4, t__law_like_5, t__law_like_6, t__law_like_7, t__law_like_8]
      refine lc_map (fun _ => .bl true) _ _ (fun x hx => ?_) (by rw [sizeLine_eq]; simp [zipd_len]; omega) ?_
      · obtain ⟨d, hm, rfl⟩ := zipd_self hx
        exact ⟨_, rfl, fun Q' q => ⟨d, rfl, List.all_eq_true.mp hd.2 d hm, q⟩⟩
      · simp [boolsD_of (fun _ => true)]
        rw [List.all_eq_true.mpr fun _ _ => rfl]
        exact q
  | tup xs =>
    cases n with
    | zero => cases hd
    | succ n =>
      have hd := Bool.and_eq_true_iff.mp (show (decide (xs.length ≤ 100000) && xs.all (plainD n)) = true from hd)
      have hl := of_decide_eq_true hd.1
      simp [N__law_like, sizeLine_eq, cut_eq, t__law_like_0, t__law_like_1, t__law_like_2, t__law_like_3, t__law_like_4, t__law_like_5, t__law_like_6, t__law_like_7, t__law_like_8]
      refine lc_map (fun _ => .bl true) _ _ (fun x hx => ?_) (by rw [sizeLine_eq]; simp [zipd_len]; omega) ?_
      · obtain ⟨d, hm, rfl⟩ := zipd_self hx
        exact ⟨_, rfl, fun Q' q => ⟨d, rfl, List.all_eq_true.mp hd.2 d hm, q⟩⟩
      · simp [boolsD_of (fun _ => true)]
        rw [List.all_eq_true.mpr fun _ _ => rfl]
        exact q
  | non => simpa [N__law_like, sizeLine_eq, cut_eq, t__law_like_0, t__law_like_1, t__law_like_2, t__law_like_3, t__law_like_4, t__law_like_5, t__law_like_6, t__law_like_7, t__law_like_8] using q
  | bl b => simpa [N__law_like, sizeLine_eq, cut_eq, t__law_like_0, t__law_like_1, t__law_like_2, t__law_like_3, t__law_like_4, t__law_like_5, t__law_like_6, t__law_like_7, t__law_like_8] using q
  | int i => simpa [N__law_like, sizeLine_eq, cut_eq, t__law_like_0, t__law_like_1, t__law_like_2, t__law_like_3, t__law_like_4, t__law_like_5, t__law_like_6, t__law_like_7, t__law_like_8] using q
  | str x => simpa [N__law_like, sizeLine_eq, cut_eq, t__law_like_0, t__law_like_1, t__law_like_2, t__law_like_3, t__law_like_4, t__law_like_5, t__law_like_6, t__law_like_7, t__law_like_8] using q
  | _ => cases n <;> cases hd
theorem like_step (T : Tx P K mg) (n : Nat) (ih : FnS P w K mg base n (He.fAd K ("_law_like", none)) [] (fun xs _ M Z Q => likeSp' n xs M Z Q)) : FnS P w K mg base (n + 1) (He.fAd K ("_law_like", none)) [] (fun xs _ M Z Q => (likeSp n) xs M Z Q) := by
  obtain ⟨fd, F⟩ := fd__law_like T
  exact fns_all (ok_like_step T n ih F) (F.bindsN fun _ _ _ _ _ _ us hl => match us, hl with | [_, _], _ => rfl)

end
end L2.Dl
namespace L2.Dl
open PySem PySem.Spec PyProof.Rows
section
variable {P : Program} {w : World} {K : PySem.W.Frag} {mg : Str → Option Value} {base : Heap}
theorem fs__law_like (T : Tx P K mg) (n : Nat) : FnS P w K mg base (n + 1) (He.fAd K ("_law_like", none)) [] (fun xs _ M Z Q => likeSp n xs M Z Q) := by
  induction n with
  | zero => exact like_step T 0 (fun A outer s H us ws vs zs F xs ys M Z QD Q E hr e0 r1 r2 l mm a b q => q.elim)
  | succ n ih => exact like_step T (n + 1) ih

end
end L2.Dl
namespace L2.Dl
open PySem PySem.Spec PyProof.Rows
section
variable {P : Program} {w : World} {K : PySem.W.Frag} {mg : Str → Option Value} {base : Heap}
theorem optK_at {α : Type} {o : Option α} {a : α} {k : α → Prop} (h : o = some a) (q : k a) : optK o k := by rw [h]; exact q
def eTab : List (Str × Option Str) := [("InvalidName", some "name"), ("InvalidWord", some "word"), ("InvalidStamp", some "stamp"), ("InvalidKey", some "given"), ("InvalidTest", some "test"), ("InvalidClause", some "at"), ("InvalidSources", some "at"), ("InvalidFate", some "fate"), ("InvalidText", some "line"), ("InvalidPair", some "given"), ("InvalidLook", some "at"), ("InvalidDeed", some "at"), ("InvalidLimit", some "limit"), ("DuplicateName", some "name"), ("DuplicateStamp", some "stamp"), ("DuplicateKey", some "given"), ("SameStamp", some "stamp"), ("SameCard", some "name"), ("OtherSources", none), ("OtherDevice", none), ("Stuck", some "looks"), ("Full", some "most"), ("UnknownName", some "name"), ("UnknownPair", some "given"), ("UnknownNote", some "stamp"), ("NothingLeft", none)]
def exnOf (p : Str × Option Str) (v : D) : D := match p.2 with | some f => .exn p.1 [("code", .str p.1), (f, v)] | none => .exn p.1 [("code", .str p.1)]
def fldOf (p : Str × Option Str) (v : D) : D := match p.2 with | some _ => v | none => .non
def spField : SpD := fun xs M Z Q => ∃ p ∈ eTab, ∃ v, xs = [exnOf p v] ∧ Q (fldOf p v) M

end
end L2.Dl
namespace L2.Dl
open PySem PySem.Spec PyProof.Rows
section
variable {P : Program} {w : World} {K : PySem.W.Frag} {mg : Str → Option Value} {base : Heap}
def N__law_field : List Str := ["_law_e"]
theorem sc__law_field : FnScope N__law_field ["_law_e"] (defScope s__law_field) := ⟨rfl, rfl, rfl, by decide +kernel, rfl, by decide +kernel, by decide +kernel⟩
theorem fd__law_field (T : Tx P K mg) : ∃ fd, FunD K "_law_field" "_law_field" (defArgs s__law_field) (defBody s__law_field) (defScope s__law_field) [] [] (He.fAd K ("_law_field", none)) fd := T.says.def_ 4 (d := d__law_field) rfl
theorem kp__law_field (T : Tx P K mg) : PySem.W.keepIn K (.ref (He.fAd K ("_law_field", none))) = true := (fd__law_field T).elim fun _ F => F.kp
def t__law_field_1 : TSD := (dRet (dXf errs "name" (dVar 0)))
def t__law_field_3 : TSD := (dRet (dXf errs "stamp" (dVar 0)))
def t__law_field_5 : TSD := (dRet (dXf errs "given" (dVar 0)))
def t__law_field_7 : TSD := (dRet (dXf errs "at" (dVar 0)))
def t__law_field_9 : TSD := (dRet (dIf (dTest (dOp dEq (dXf errs "code" (dVar 0)) (dC (.str "InvalidWord")))) (dXf errs "word" (dVar 0)) (dXf errs "test" (dVar 0))))
def t__law_field_11 : TSD := (dRet (dIf (dTest (dOp dEq (dXf errs "code" (dVar 0)) (dC (.str "InvalidFate")))) (dXf errs "fate" (dVar 0)) (dXf errs "line" (dVar 0))))
def t__law_field_13 : TSD := (dRet (dIf (dTest (dOp dEq (dXf errs "code" (dVar 0)) (dC (.str "InvalidLimit")))) (dXf errs "limit" (dVar 0)) (dXf errs "most" (dVar 0))))
def t__law_field_14 : TSD := (dRet (dIf (dTest (dOp dEq (dXf errs "code" (dVar 0)) (dC (.str "Stuck")))) (dXf errs "looks" (dVar 0)) (dC .non)))
def t__law_field_12 : TSD := dSeq (dIfS (dTest (dOp (dInG id) (dXf errs "code" (dVar 0)) (dLst (dCons (dC (.str "InvalidLimit")) (dCons (dC (.str "Full")) dNil))))) t__law_field_13 dNext) t__law_field_14
def t__law_field_10 : TSD := dSeq (dIfS (dTest (dOp (dInG id) (dXf errs "code" (dVar 0)) (dLst (dCons (dC (.str "InvalidFate")) (dCons (dC (.str "InvalidText")) dNil))))) t__law_field_11 dNext) t__law_field_12
def t__law_field_8 : TSD := dSeq (dIfS (dTest (dOp (dInG id) (dXf errs "code" (dVar 0)) (dLst (dCons (dC (.str "InvalidWord")) (dCons (dC (.str "InvalidTest")) dNil))))) t__law_field_9 dNext) t__law_field_10
def t__law_field_6 : TSD := dSeq (dIfS (dTest (dOp (dInG id) (dXf errs "code" (dVar 0)) (dLst (dCons (dC (.str "InvalidClause")) (dCons (dC (.str "InvalidSources")) (dCons (dC (.str "InvalidLook")) (dCons (dC (.str "InvalidDeed")) dNil))))))) t__law_field_7 dNext) t__law_field_8
def t__law_field_4 : TSD := dSeq (dIfS (dTest (dOp (dInG id) (dXf errs "code" (dVar 0)) (dLst (dCons (dC (.str "InvalidKey")) (dCons (dC (.str "DuplicateKey")) (dCons (dC (.str "InvalidPair")) (dCons (dC (.str "UnknownPair")) dNil))))))) t__law_field_5 dNext) t__law_field_6
def t__law_field_2 : TSD := dSeq (dIfS (dTest (dOp (dInG id) (dXf errs "code" (dVar 0)) (dLst (dCons (dC (.str "InvalidStamp")) (dCons (dC (.str "DuplicateStamp")) (dCons (dC (.str "SameStamp")) (dCons (dC (.str "UnknownNote")) dNil))))))) t__law_field_3 dNext) t__law_field_4
def t__law_field_0 : TSD := dSeq (dIfS (dTest (dOp (dInG id) (dXf errs "code" (dVar 0)) (dLst (dCons (dC (.str "InvalidName")) (dCons (dC (.str "DuplicateName")) (dCons (dC (.str "SameCard")) (dCons (dC (.str "UnknownName")) dNil))))))) t__law_field_1 dNext) t__law_field_2
theorem ok__law_field (T : Tx P K mg) {fd : FuncData} (F : FunD K "_law_field" "_law_field" (defArgs s__law_field) (defBody s__law_field) (defScope s__law_field) [] [] (He.fAd K ("_law_field", none)) fd) : FnOk P w K mg base (L2.CX P w) (1) (He.fAd K ("_law_field", none)) fd ["_law_e"] (spOf K spField) := by
  refine (fn_d (k := 0) (sp := spField) (t := t__law_field_0) F sc__law_field (fun X cdv A outer s H E hX hr hp => by
    subst hX
    exact (s_cons (s_if (d_tcmp (c_in (hu65 hr)) (d_xf (xf T (by decide)) (d_v 0)) (d_lst (ad_cons d_str (ad_cons d_str (ad_cons d_str (ad_cons d_str ad_nil))))) rfl)
    (s_one (s_ret (d_xf (xf T (by decide)) (d_v 0))))
    s_nil)
    (s_cons (s_if (d_tcmp (c_in (hu65 hr)) (d_xf (xf T (by decide)) (d_v 0)) (d_lst (ad_cons d_str (ad_cons d_str (ad_cons d_str (ad_cons d_str ad_nil))))) rfl)
    (s_one (s_ret (d_xf (xf T (by decide)) (d_v 0))))
    s_nil)
    (s_cons (s_if (d_tcmp (c_in (hu65 hr)) (d_xf (xf T (by decide)) (d_v 0)) (d_lst (ad_cons d_str (ad_cons d_str (ad_cons d_str (ad_cons d_str ad_nil))))) rfl)
    (s_one (s_ret (d_xf (xf T (by decide)) (d_v 0))))
    s_nil)
    (s_cons (s_if (d_tcmp (c_in (hu65 hr)) (d_xf (xf T (by decide)) (d_v 0)) (d_lst (ad_cons d_str (ad_cons d_str (ad_cons d_str (ad_cons d_str ad_nil))))) rfl)
    (s_one (s_ret (d_xf (xf T (by decide)) (d_v 0))))
    s_nil)
    (s_cons (s_if (d_tcmp (c_in (hu65 hr)) (d_xf (xf T (by decide)) (d_v 0)) (d_lst (ad_cons d_str (ad_cons d_str ad_nil))) rfl)
    (s_one (s_ret (d_if (d_tcmp (c_eq hr.units) (d_xf (xf T (by decide)) (d_v 0)) d_str (nomark _)) (d_xf (xf T (by decide)) (d_v 0)) (d_xf (xf T (by decide)) (d_v 0)))))
    s_nil)
    (s_cons (s_if (d_tcmp (c_in (hu65 hr)) (d_xf (xf T (by decide)) (d_v 0)) (d_lst (ad_cons d_str (ad_cons d_str ad_nil))) rfl)
    (s_one (s_ret (d_if (d_tcmp (c_eq hr.units) (d_xf (xf T (by decide)) (d_v 0)) d_str (nomark _)) (d_xf (xf T (by decide)) (d_v 0)) (d_xf (xf T (by decide)) (d_v 0)))))
    s_nil)
    (s_cons (s_if (d_tcmp (c_in (hu65 hr)) (d_xf (xf T (by decide)) (d_v 0)) (d_lst (ad_cons d_str (ad_cons d_str ad_nil))) rfl)
    (s_one (s_ret (d_if (d_tcmp (c_eq hr.units) (d_xf (xf T (by decide)) (d_v 0)) d_str (nomark _)) (d_xf (xf T (by decide)) (d_v 0)) (d_xf (xf T (by decide)) (d_v 0)))))
    s_nil)
    (s_one (s_ret (d_if (d_tcmp (c_eq hr.units) (d_xf (xf T (by decide)) (d_v 0)) d_str (nomark _)) (d_xf (xf T (by decide)) (d_v 0)) d_non))))))))))) (fun xs M Z Q h => ?_))
  obtain ⟨p, hp, v, rfl, q⟩ := h
  refine ⟨rfl, ?_⟩
  simp only [eTab, List.mem_cons, List.not_mem_nil, or_false] at hp
  rcases hp with rfl | rfl | rfl | rfl | rfl | rfl | rfl | rfl | rfl | rfl | rfl | rfl | rfl | rfl | rfl | rfl | rfl | rfl | rfl | rfl | rfl | rfl | rfl | rfl | rfl | rfl
  all_goals simp [N__law_field, exnOf, t__law_field_0, t__law_field_1, t__law_field_2, t__law_field_3, t__law_field_4, t__law_field_5, t__law_field_6, t__law_field_7, t__law_field_8, t__law_field_9, t__law_field_10, t__law_field_11, t__law_field_12, t__law_field_13, t__law_field_14, cut_eq, errs, sizeLine_eq]
  all_goals repeat (first | exact q | refine ⟨by decide +kernel, ?_⟩ | rw [if_pos (by decide +kernel)] | rw [if_neg (by decide +kernel)] | refine optK_at (a := v) (by rfl) ?_)
theorem fs__law_field (T : Tx P K mg) : FnS P w K mg base (1) (He.fAd K ("_law_field", none)) [] (fun xs _ M Z Q => spField xs M Z Q) := by
  obtain ⟨fd, F⟩ := fd__law_field T
  exact fns_all (ok__law_field T F) (F.bindsN fun _ _ _ _ _ _ us hl => match us, hl with | [_], _ => rfl)

end
end L2.Dl
namespace L2.Dl
open PySem PySem.Spec PyProof.Rows
section
variable {P : Program} {w : World} {K : PySem.W.Frag} {mg : Str → Option Value} {base : Heap}
def e22 : List (Str × Option Str) := eTab.take 22
def spErrors : SpD := fun xs M Z Q => ∃ v, xs = [v] ∧ Q (.lst (e22.map fun p => exnOf p v)) M
def isLeaf (C : Str) : List D := errs.map fun c => .bl (decide (c = C))
def spFlags : SpD := fun xs M Z Q => ∃ p ∈ eTab, ∃ v, xs = [exnOf p v] ∧ Q (.lst (isLeaf p.1)) M
def basesOf (C : Str) : List D := ([.own "CardError", .own "Missing", .ty "ValueError", .ty "LookupError", .ty "IndexError"] : List KD).map fun c => .bl (decide (c ∈ ((isM.lookup (.own C)).getD [])))
def spBases : SpD := fun xs M Z Q => ∃ p ∈ eTab, ∃ v, xs = [exnOf p v] ∧ Q (.lst (basesOf p.1)) M

end
end L2.Dl
namespace L2.Dl
open PySem PySem.Spec PyProof.Rows
section
variable {P : Program} {w : World} {K : PySem.W.Frag} {mg : Str → Option Value} {base : Heap}
def N__law_errors : List Str := ["_law_a"]
theorem sc__law_errors : FnScope N__law_errors ["_law_a"] (defScope s__law_errors) := ⟨rfl, rfl, rfl, by decide +kernel, rfl, by decide +kernel, by decide +kernel⟩
theorem fd__law_errors (T : Tx P K mg) : ∃ fd, FunD K "_law_errors" "_law_errors" (defArgs s__law_errors) (defBody s__law_errors) (defScope s__law_errors) [] [] (He.fAd K ("_law_errors", none)) fd := T.says.def_ 5 (d := d__law_errors) rfl
theorem kp__law_errors (T : Tx P K mg) : PySem.W.keepIn K (.ref (He.fAd K ("_law_errors", none))) = true := (fd__law_errors T).elim fun _ F => F.kp
def t__law_errors_0 : TSD := (dRet (dLst (dCons (dCallS (spErr1 "InvalidName" "InvalidName" "name") (dCons (dVar 0) dNil) dNil) (dCons (dCallS (fun xs ys M Z Q => ys.length = 1 ∧ spErrK "InvalidWord" "InvalidWord" "word" xs ys M Z Q) dNil (dCons (dVar 0) dNil)) (dCons (dCallS (spErr1 "InvalidStamp" "InvalidStamp" "stamp") (dCons (dVar 0) dNil) dNil) (dCons (dCallS (fun xs ys M Z Q => ys.length = 1 ∧ spErrK "InvalidKey" "InvalidKey" "given" xs ys M Z Q) dNil (dCons (dVar 0) dNil)) (dCons (dCallS (spErr1 "InvalidTest" "InvalidTest" "test") (dCons (dVar 0) dNil) dNil) (dCons (dCallS (fun xs ys M Z Q => ys.length = 1 ∧ spErrK "InvalidClause" "InvalidClause" "at" xs ys M Z Q) dNil (dCons (dVar 0) dNil)) (dCons (dCallS (spErr1 "InvalidSources" "InvalidSources" "at") (dCons (dVar 0) dNil) dNil) (dCons (dCallS (fun xs ys M Z Q => ys.length = 1 ∧ spErrK "InvalidFate" "InvalidFate" "fate" xs ys M Z Q) dNil (dCons (dVar 0) dNil)) (dCons (dCallS (spErr1 "InvalidText" "InvalidText" "line") (dCons (dVar 0) dNil) dNil) (dCons (dCallS (fun xs ys M Z Q => ys.length = 1 ∧ spErrK "InvalidPair" "InvalidPair" "given" xs ys M Z Q) dNil (dCons (dVar 0) dNil)) (dCons (dCallS (spErr1 "InvalidLook" "InvalidLook" "at") (dCons (dVar 0) dNil) dNil) (dCons (dCallS (fun xs ys M Z Q => ys.length = 1 ∧ spErrK "InvalidDeed" "InvalidDeed" "at" xs ys M Z Q) dNil (dCons (dVar 0) dNil)) (dCons (dCallS (spErr1 "InvalidLimit" "InvalidLimit" "limit") (dCons (dVar 0) dNil) dNil) (dCons (dCallS (fun xs ys M Z Q => ys.length = 1 ∧ spErrK "DuplicateName" "DuplicateName" "name" xs ys M Z Q) dNil (dCons (dVar 0) dNil)) (dCons (dCallS (spErr1 "DuplicateStamp" "DuplicateStamp" "stamp") (dCons (dVar 0) dNil) dNil) (dCons (dCallS (fun xs ys M Z Q => ys.length = 1 ∧ spErrK "DuplicateKey" "DuplicateKey" "given" xs ys M Z Q) dNil (dCons (dVar 0) dNil)) (dCons (dCallS (spErr1 "SameStamp" "SameStamp" "stamp") (dCons (dVar 0) dNil) dNil) (dCons (dCallS (fun xs ys M Z Q => ys.length = 1 ∧ spErrK "SameCard" "SameCard" "name" xs ys M Z Q) dNil (dCons (dVar 0) dNil)) (dCons (dCallS (spErr0 "OtherSources" "OtherSources") dNil dNil) (dCons (dCallS (spErr0 "OtherDevice" "OtherDevice") dNil dNil) (dCons (dCallS (fun xs ys M Z Q => ys.length = 1 ∧ spErrK "Stuck" "Stuck" "looks" xs ys M Z Q) dNil (dCons (dVar 0) dNil)) (dCons (dCallS (spErr1 "Full" "Full" "most") (dCons (dVar 0) dNil) dNil) dNil))))))))))))))))))))))))
theorem ok__law_errors (T : Tx P K mg) {fd : FuncData} (F : FunD K "_law_errors" "_law_errors" (defArgs s__law_errors) (defBody s__law_errors) (defScope s__law_errors) [] [] (He.fAd K ("_law_errors", none)) fd) : FnOk P w K mg base (L2.CX P w) (2) (He.fAd K ("_law_errors", none)) fd ["_law_a"] (spOf K spErrors) := by
  refine (fn_d (k := 1) (sp := spErrors) (t := t__law_errors_0) F sc__law_errors (fun X cdv A outer s H E hX hr hp => by
    subst hX
    exact (s_one (s_ret (d_lst (ad_cons (d_call (cal_err1 (ec_InvalidName T).1 ie_InvalidName (taker_none ((ec_InvalidName T).2.2 "code" (by decide))) (taker_none ((ec_InvalidName T).2.2 "name" (by decide))) (hr.mono (by omega))) (ec_InvalidName T).2.1.kp (T.glo (T.says.fact 33 rfl)) (ad_cons (d_v 0) ad_nil)) (ad_cons (d_callK0 (cal_errK (ec_InvalidWord T).1 ie_InvalidWord (taker_none ((ec_InvalidWord T).2.2 "code" (by decide))) (taker_none ((ec_InvalidWord T).2.2 "word" (by decide))) (hr.mono (by omega))) (ec_InvalidWord T).2.1.kp (T.glo (T.says.fact 32 rfl)) (kd_cons (d_v 0) kd_nil)) (ad_cons (d_call (cal_err1 (ec_InvalidStamp T).1 ie_InvalidStamp (taker_none ((ec_InvalidStamp T).2.2 "code" (by decide))) (taker_none ((ec_InvalidStamp T).2.2 "stamp" (by decide))) (hr.mono (by omega))) (ec_InvalidStamp T).2.1.kp (T.glo (T.says.fact 31 rfl)) (ad_cons (d_v 0) ad_nil)) (ad_cons (d_callK0 (cal_errK (ec_InvalidKey T).1 ie_InvalidKey (taker_none ((ec_InvalidKey T).2.2 "code" (by decide))) (taker_none ((ec_InvalidKey T).2.2 "given" (by decide))) (hr.mono (by omega))) (ec_InvalidKey T).2.1.kp (T.glo (T.says.fact 30 rfl)) (kd_cons (d_v 0) kd_nil)) (ad_cons (d_call (cal_err1 (ec_InvalidTest T).1 ie_InvalidTest (taker_none ((ec_InvalidTest T).2.2 "code" (by decide))) (taker_none ((ec_InvalidTest T).2.2 "test" (by decide))) (hr.mono (by omega))) (ec_InvalidTest T).2.1.kp (T.glo (T.says.fact 29 rfl)) (ad_cons (d_v 0) ad_nil)) (ad_cons (d_callK0 (cal_errK (ec_InvalidClause T).1 ie_InvalidClause (taker_none ((ec_InvalidClause T).2.2 "code" (by decide))) (taker_none ((ec_InvalidClause T).2.2 "at" (by decide))) (hr.mono (by omega))) (ec_InvalidClause T).2.1.kp (T.glo (T.says.fact 28 rfl)) (kd_cons (d_v 0) kd_nil)) (ad_cons (d_call (cal_err1 (ec_InvalidSources T).1 ie_InvalidSources (taker_none ((ec_InvalidSources T).2.2 "code" (by decide))) (taker_none ((ec_InvalidSources T).2.2 "at" (by decide))) (hr.mono (by omega))) (ec_InvalidSources T).2.1.kp (T.glo (T.says.fact 27 rfl)) (ad_cons (d_v 0) ad_nil)) (ad_cons (d_callK0 (cal_errK (ec_InvalidFate T).1 ie_InvalidFate (taker_none ((ec_InvalidFate T).2.2 "code" (by decide))) (taker_none ((ec_InvalidFate T).2.2 "fate" (by decide))) (hr.mono (by omega))) (ec_InvalidFate T).2.1.kp (T.glo (T.says.fact 26 rfl)) (kd_cons (d_v 0) kd_nil)) (ad_cons (d_call (cal_err1 (ec_InvalidText T).1 ie_InvalidText (taker_none ((ec_InvalidText T).2.2 "code" (by decide))) (taker_none ((ec_InvalidText T).2.2 "line" (by decide))) (hr.mono (by omega))) (ec_InvalidText T).2.1.kp (T.glo (T.says.fact 25 rfl)) (ad_cons (d_v 0) ad_nil)) (ad_cons (d_callK0 (cal_errK (ec_InvalidPair T).1 ie_InvalidPair (taker_none ((ec_InvalidPair T).2.2 "code" (by decide))) (taker_none ((ec_InvalidPair T).2.2 "given" (by decide))) (hr.mono (by omega))) (ec_InvalidPair T).2.1.kp (T.glo (T.says.fact 24 rfl)) (kd_cons (d_v 0) kd_nil)) (ad_cons (d_call (cal_err1 (ec_InvalidLook T).1 ie_InvalidLook (taker_none ((ec_InvalidLook T).2.2 "code" (by decide))) (taker_none ((ec_InvalidLook T).2.2 "at" (by decide))) (hr.mono (by omega))) (ec_InvalidLook T).2.1.kp (T.glo (T.says.fact 23 rfl)) (ad_cons (d_v 0) ad_nil)) (ad_cons (d_callK0 (cal_errK (ec_InvalidDeed T).1 ie_InvalidDeed (taker_none ((ec_InvalidDeed T).2.2 "code" (by decide))) (taker_none ((ec_InvalidDeed T).2.2 "at" (by decide))) (hr.mono (by omega))) (ec_InvalidDeed T).2.1.kp (T.glo (T.says.fact 22 rfl)) (kd_cons (d_v 0) kd_nil)) (ad_cons (d_call (cal_err1 (ec_InvalidLimit T).1 ie_InvalidLimit (taker_none ((ec_InvalidLimit T).2.2 "code" (by decide))) (taker_none ((ec_InvalidLimit T).2.2 "limit" (by decide))) (hr.mono (by omega))) (ec_InvalidLimit T).2.1.kp (T.glo (T.says.fact 21 rfl)) (ad_cons (d_v 0) ad_nil)) (ad_cons (d_callK0 (cal_errK (ec_DuplicateName T).1 ie_DuplicateName (taker_none ((ec_DuplicateName T).2.2 "code" (by decide))) (taker_none ((ec_DuplicateName T).2.2 "name" (by decide))) (hr.mono (by omega))) (ec_DuplicateName T).2.1.kp (T.glo (T.says.fact 20 rfl)) (kd_cons (d_v 0) kd_nil)) (ad_cons (d_call (cal_err1 (ec_DuplicateStamp T).1 ie_DuplicateStamp (taker_none ((ec_DuplicateStamp T).2.2 "code" (by decide))) (taker_none ((ec_DuplicateStamp T).2.2 "stamp" (by decide))) (hr.mono (by omega))) (ec_DuplicateStamp T).2.1.kp (T.glo (T.says.fact 19 rfl)) (ad_cons (d_v 0) ad_nil)) (ad_cons (d_callK0 (cal_errK (ec_DuplicateKey T).1 ie_DuplicateKey (taker_none ((ec_DuplicateKey T).2.2 "code" (by decide))) (taker_none ((ec_DuplicateKey T).2.2 "given" (by decide))) (hr.mono (by omega))) (ec_DuplicateKey T).2.1.kp (T.glo (T.says.fact 18 rfl)) (kd_cons (d_v 0) kd_nil)) (ad_cons (d_call (cal_err1 (ec_SameStamp T).1 ie_SameStamp (taker_none ((ec_SameStamp T).2.2 "code" (by decide))) (taker_none ((ec_SameStamp T).2.2 "stamp" (by decide))) (hr.mono (by omega))) (ec_SameStamp T).2.1.kp (T.glo (T.says.fact 17 rfl)) (ad_cons (d_v 0) ad_nil)) (ad_cons (d_callK0 (cal_errK (ec_SameCard T).1 ie_SameCard (taker_none ((ec_SameCard T).2.2 "code" (by decide))) (taker_none ((ec_SameCard T).2.2 "name" (by decide))) (hr.mono (by omega))) (ec_SameCard T).2.1.kp (T.glo (T.says.fact 16 rfl)) (kd_cons (d_v 0) kd_nil)) (ad_cons (d_call0 (cal_err0 (ec_OtherSources T).1 ie_OtherSources (taker_none ((ec_OtherSources T).2.2 "code" (by decide))) (hr.mono (by omega))) (ec_OtherSources T).2.1.kp (T.glo (T.says.fact 15 rfl))) (ad_cons (d_call0 (cal_err0 (ec_OtherDevice T).1 ie_OtherDevice (taker_none ((ec_OtherDevice T).2.2 "code" (by decide))) (hr.mono (by omega))) (ec_OtherDevice T).2.1.kp (T.glo (T.says.fact 14 rfl))) (ad_cons (d_callK0 (cal_errK (ec_Stuck T).1 ie_Stuck (taker_none ((ec_Stuck T).2.2 "code" (by decide))) (taker_none ((ec_Stuck T).2.2 "looks" (by decide))) (hr.mono (by omega))) (ec_Stuck T).2.1.kp (T.glo (T.says.fact 13 rfl)) (kd_cons (d_v 0) kd_nil)) (ad_cons (d_call (cal_err1 (ec_Full T).1 ie_Full (taker_none ((ec_Full T).2.2 "code" (by decide))) (taker_none ((ec_Full T).2.2 "most" (by decide))) (hr.mono (by omega))) (ec_Full T).2.1.kp (T.glo (T.says.fact 12 rfl)) (ad_cons (d_v 0) ad_nil)) ad_nil)))))))))))))))))))))))))) (fun xs M Z Q h => ?_))
  obtain ⟨v, rfl, q⟩ := h
  refine ⟨rfl, ?_⟩
  simp [N__law_errors, t__law_errors_0, ask, sizeLine_eq]
  exact q
theorem fs__law_errors (T : Tx P K mg) : FnS P w K mg base (2) (He.fAd K ("_law_errors", none)) [] (fun xs _ M Z Q => spErrors xs M Z Q) := by
  obtain ⟨fd, F⟩ := fd__law_errors T
  exact fns_all (ok__law_errors T F) (F.bindsN fun _ _ _ _ _ _ us hl => match us, hl with | [_], _ => rfl)

end
end L2.Dl
namespace L2.Dl
open PySem PySem.Spec PyProof.Rows
section
variable {P : Program} {w : World} {K : PySem.W.Frag} {mg : Str → Option Value} {base : Heap}
def N__law_bases : List Str := ["_law_e"]
theorem sc__law_bases : FnScope N__law_bases ["_law_e"] (defScope s__law_bases) := ⟨rfl, rfl, rfl, by decide +kernel, rfl, by decide +kernel, by decide +kernel⟩
theorem fd__law_bases (T : Tx P K mg) : ∃ fd, FunD K "_law_bases" "_law_bases" (defArgs s__law_bases) (defBody s__law_bases) (defScope s__law_bases) [] [] (He.fAd K ("_law_bases", none)) fd := T.says.def_ 6 (d := d__law_bases) rfl
theorem kp__law_bases (T : Tx P K mg) : PySem.W.keepIn K (.ref (He.fAd K ("_law_bases", none))) = true := (fd__law_bases T).elim fun _ F => F.kp
def t__law_bases_0 : TSD := (dRet (dLst (dCons (dCB (dIsiX objs errs (mroT isM isC)) (dCons (dVar 0) (dCons (dC (.glo "CardError")) dNil))) (dCons (dCB (dIsiX objs errs (mroT isM isC)) (dCons (dVar 0) (dCons (dC (.glo "Missing")) dNil))) (dCons (dCB (dIsiX objs errs (mroT isM isC)) (dCons (dVar 0) (dCons (dC (.ty "ValueError")) dNil))) (dCons (dCB (dIsiX objs errs (mroT isM isC)) (dCons (dVar 0) (dCons (dC (.ty "LookupError")) dNil))) (dCons (dCB (dIsiX objs errs (mroT isM isC)) (dCons (dVar 0) (dCons (dC (.ty "IndexError")) dNil))) dNil)))))))
theorem ok__law_bases (T : Tx P K mg) {fd : FuncData} (F : FunD K "_law_bases" "_law_bases" (defArgs s__law_bases) (defBody s__law_bases) (defScope s__law_bases) [] [] (He.fAd K ("_law_bases", none)) fd) : FnOk P w K mg base (L2.CX P w) (1) (He.fAd K ("_law_bases", none)) fd ["_law_e"] (spOf K spBases) := by
  refine (fn_d (k := 0) (sp := spBases) (t := t__law_bases_0) F sc__law_bases (fun X cdv A outer s H E hX hr hp => by
    subst hX
    exact (s_one (s_ret (d_lst (ad_cons (d_callB (k_isiX (io T)) (T.free (T.says.fact 6 rfl)) bf_isinstance (ad_cons (d_v 0) (ad_cons (d_globR (T.glo (T.says.fact 38 rfl))) ad_nil))) (ad_cons (d_callB (k_isiX (io T)) (T.free (T.says.fact 6 rfl)) bf_isinstance (ad_cons (d_v 0) (ad_cons (d_globR (T.glo (T.says.fact 37 rfl))) ad_nil))) (ad_cons (d_callB (k_isiX (io T)) (T.free (T.says.fact 6 rfl)) bf_isinstance (ad_cons (d_v 0) (ad_cons (d_ty (T.free (T.says.fact 36 rfl)) bt_ValueError) ad_nil))) (ad_cons (d_callB (k_isiX (io T)) (T.free (T.says.fact 6 rfl)) bf_isinstance (ad_cons (d_v 0) (ad_cons (d_ty (T.free (T.says.fact 35 rfl)) bt_LookupError) ad_nil))) (ad_cons (d_callB (k_isiX (io T)) (T.free (T.says.fact 6 rfl)) bf_isinstance (ad_cons (d_v 0) (ad_cons (d_ty (T.free (T.says.fact 34 rfl)) bt_IndexError) ad_nil))) ad_nil))))))))) (fun xs M Z Q h => ?_))
  obtain ⟨p, hp, v, rfl, q⟩ := h
  refine ⟨rfl, ?_⟩
  simp only [eTab, List.mem_cons, List.not_mem_nil, or_false] at hp
  rcases hp with rfl | rfl | rfl | rfl | rfl | rfl | rfl | rfl | rfl | rfl | rfl | rfl | rfl | rfl | rfl | rfl | rfl | rfl | rfl | rfl | rfl | rfl | rfl | rfl | rfl | rfl
  all_goals simp [N__law_bases, exnOf, t__law_bases_0, errs, sizeLine_eq]
  all_goals repeat (first | exact q | refine optK_at (by kernel_rfl) ?_)
theorem fs__law_bases (T : Tx P K mg) : FnS P w K mg base (1) (He.fAd K ("_law_bases", none)) [] (fun xs _ M Z Q => spBases xs M Z Q) := by
  obtain ⟨fd, F⟩ := fd__law_bases T
  exact fns_all (ok__law_bases T F) (F.bindsN fun _ _ _ _ _ _ us hl => match us, hl with | [_], _ => rfl)

end
end L2.Dl
namespace L2.Dl
open PySem PySem.Spec PyProof.Rows
section
variable {P : Program} {w : World} {K : PySem.W.Frag} {mg : Str → Option Value} {base : Heap}
theorem mro_leaf : ∀ C ∈ errs, ∀ c ∈ errs, mroT isM isC (.own C) (.own c) = some (decide (c = C)) := by decide +kernel
theorem tab_in : ∀ p ∈ eTab, p.1 ∈ errs := by decide +kernel
theorem kd_exn {p : Str × Option Str} {v : D} {M : MM} (hp : p ∈ eTab) : kdX objs errs (exnOf p v) M = some (.own p.1) := by
  unfold exnOf
  split <;> (simp only [kdX]; rw [if_pos (tab_in p hp)])

end
end L2.Dl
namespace L2.Dl
open PySem PySem.Spec PyProof.Rows
section
variable {P : Program} {w : World} {K : PySem.W.Frag} {mg : Str → Option Value} {base : Heap}
def N__law_flags : List Str := ["_law_e"]
theorem sc__law_flags : FnScope N__law_flags ["_law_e"] (defScope s__law_flags) := ⟨rfl, rfl, rfl, by decide +kernel, rfl, by decide +kernel, by decide +kernel⟩
theorem fd__law_flags (T : Tx P K mg) : ∃ fd, FunD K "_law_flags" "_law_flags" (defArgs s__law_flags) (defBody s__law_flags) (defScope s__law_flags) [] [] (He.fAd K ("_law_flags", none)) fd := T.says.def_ 7 (d := d__law_flags) rfl
theorem kp__law_flags (T : Tx P K mg) : PySem.W.keepIn K (.ref (He.fAd K ("_law_flags", none))) = true := (fd__law_flags T).elim fun _ F => F.kp
def t__law_flags_0 : TSD := (dRet (dLst (dCons (dCB (dIsiX objs errs (mroT isM isC)) (dCons (dVar 0) (dCons (dC (.glo "InvalidName")) dNil))) (dCons (dCB (dIsiX objs errs (mroT isM isC)) (dCons (dVar 0) (dCons (dC (.glo "InvalidWord")) dNil))) (dCons (dCB (dIsiX objs errs (mroT isM isC)) (dCons (dVar 0) (dCons (dC (.glo "InvalidStamp")) dNil))) (dCons (dCB (dIsiX objs errs (mroT isM isC)) (dCons (dVar 0) (dCons (dC (.glo "InvalidKey")) dNil))) (dCons (dCB (dIsiX objs errs (mroT isM isC)) (dCons (dVar 0) (dCons (dC (.glo "InvalidTest")) dNil))) (dCons (dCB (dIsiX objs errs (mroT isM isC)) (dCons (dVar 0) (dCons (dC (.glo "InvalidClause")) dNil))) (dCons (dCB (dIsiX objs errs (mroT isM isC)) (dCons (dVar 0) (dCons (dC (.glo "InvalidSources")) dNil))) (dCons (dCB (dIsiX objs errs (mroT isM isC)) (dCons (dVar 0) (dCons (dC (.glo "InvalidFate")) dNil))) (dCons (dCB (dIsiX objs errs (mroT isM isC)) (dCons (dVar 0) (dCons (dC (.glo "InvalidText")) dNil))) (dCons (dCB (dIsiX objs errs (mroT isM isC)) (dCons (dVar 0) (dCons (dC (.glo "InvalidPair")) dNil))) (dCons (dCB (dIsiX objs errs (mroT isM isC)) (dCons (dVar 0) (dCons (dC (.glo "InvalidLook")) dNil))) (dCons (dCB (dIsiX objs errs (mroT isM isC)) (dCons (dVar 0) (dCons (dC (.glo "InvalidDeed")) dNil))) (dCons (dCB (dIsiX objs errs (mroT isM isC)) (dCons (dVar 0) (dCons (dC (.glo "InvalidLimit")) dNil))) (dCons (dCB (dIsiX objs errs (mroT isM isC)) (dCons (dVar 0) (dCons (dC (.glo "DuplicateName")) dNil))) (dCons (dCB (dIsiX objs errs (mroT isM isC)) (dCons (dVar 0) (dCons (dC (.glo "DuplicateStamp")) dNil))) (dCons (dCB (dIsiX objs errs (mroT isM isC)) (dCons (dVar 0) (dCons (dC (.glo "DuplicateKey")) dNil))) (dCons (dCB (dIsiX objs errs (mroT isM isC)) (dCons (dVar 0) (dCons (dC (.glo "SameStamp")) dNil))) (dCons (dCB (dIsiX objs errs (mroT isM isC)) (dCons (dVar 0) (dCons (dC (.glo "SameCard")) dNil))) (dCons (dCB (dIsiX objs errs (mroT isM isC)) (dCons (dVar 0) (dCons (dC (.glo "OtherSources")) dNil))) (dCons (dCB (dIsiX objs errs (mroT isM isC)) (dCons (dVar 0) (dCons (dC (.glo "OtherDevice")) dNil))) (dCons (dCB (dIsiX objs errs (mroT isM isC)) (dCons (dVar 0) (dCons (dC (.glo "Stuck")) dNil))) (dCons (dCB (dIsiX objs errs (mroT isM isC)) (dCons (dVar 0) (dCons (dC (.glo "Full")) dNil))) (dCons (dCB (dIsiX objs errs (mroT isM isC)) (dCons (dVar 0) (dCons (dC (.glo "UnknownName")) dNil))) (dCons (dCB (dIsiX objs errs (mroT isM isC)) (dCons (dVar 0) (dCons (dC (.glo "UnknownPair")) dNil))) (dCons (dCB (dIsiX objs errs (mroT isM isC)) (dCons (dVar 0) (dCons (dC (.glo "UnknownNote")) dNil))) (dCons (dCB (dIsiX objs errs (mroT isM isC)) (dCons (dVar 0) (dCons (dC (.glo "NothingLeft")) dNil))) dNil))))))))))))))))))))))))))))
theorem ok__law_flags (T : Tx P K mg) {fd : FuncData} (F : FunD K "_law_flags" "_law_flags" (defArgs s__law_flags) (defBody s__law_flags) (defScope s__law_flags) [] [] (He.fAd K ("_law_flags", none)) fd) : FnOk P w K mg base (L2.CX P w) (1) (He.fAd K ("_law_flags", none)) fd ["_law_e"] (spOf K spFlags) := by
  refine (fn_d (k := 0) (sp := spFlags) (t := t__law_flags_0) F sc__law_flags (fun X cdv A outer s H E hX hr hp => by
    subst hX
    exact (s_one (s_ret (d_lst (ad_cons (d_callB (k_isiX (io T)) (T.free (T.says.fact 6 rfl)) bf_isinstance (ad_cons (d_v 0) (ad_cons (d_globR (T.glo (T.says.fact 33 rfl))) ad_nil))) (ad_cons (d_callB (k_isiX (io T)) (T.free (T.says.fact 6 rfl)) bf_isinstance (ad_cons (d_v 0) (ad_cons (d_globR (T.glo (T.says.fact 32 rfl))) ad_nil))) (ad_cons (d_callB (k_isiX (io T)) (T.free (T.says.fact 6 rfl)) bf_isinstance (ad_cons (d_v 0) (ad_cons (d_globR (T.glo (T.says.fact 31 rfl))) ad_nil))) (ad_cons (d_callB (k_isiX (io T)) (T.free (T.says.fact 6 rfl)) bf_isinstance (ad_cons (d_v 0) (ad_cons (d_globR (T.glo (T.says.fact 30 rfl))) ad_nil))) (ad_cons (d_callB (k_isiX (io T)) (T.free (T.says.fact 6 rfl)) bf_isinstance (ad_cons (d_v 0) (ad_cons (d_globR (T.glo (T.says.fact 29 rfl))) ad_nil))) (ad_cons (d_callB (k_isiX (io T)) (T.free (T.says.fact 6 rfl)) bf_isinstance (ad_cons (d_v 0) (ad_cons (d_globR (T.glo (T.says.fact 28 rfl))) ad_nil))) (ad_cons (d_callB (k_isiX (io T)) (T.free (T.says.fact 6 rfl)) bf_isinstance (ad_cons (d_v 0) (ad_cons (d_globR (T.glo (T.says.fact 27 rfl))) ad_nil))) (ad_cons (d_callB (k_isiX (io T)) (T.free (T.says.fact 6 rfl)) bf_isinstance (ad_cons (d_v 0) (ad_cons (d_globR (T.glo (T.says.fact 26 rfl))) ad_nil))) (ad_cons (d_callB (k_isiX (io T)) (T.free (T.says.fact 6 rfl)) bf_isinstance (ad_cons (d_v 0) (ad_cons (d_globR (T.glo (T.says.fact 25 rfl))) ad_nil))) (ad_cons (d_callB (k_isiX (io T)) (T.free (T.says.fact 6 rfl)) bf_isinstance (ad_cons (d_v 0) (ad_cons (d_globR (T.glo (T.says.fact 24 rfl))) ad_nil))) (ad_cons (d_callB (k_isiX (io T)) (T.free (T.says.fact 6 rfl)) bf_isinstance (ad_cons (d_v 0) (ad_cons (d_globR (T.glo (T.says.fact 23 rfl))) ad_nil))) (ad_cons (d_callB (k_isiX (io T)) (T.free (T.says.fact 6 rfl)) bf_isinstance (ad_cons (d_v 0) (ad_cons (d_globR (T.glo (T.says.fact 22 rfl))) ad_nil))) (ad_cons (d_callB (k_isiX (io T)) (T.free (T.says.fact 6 rfl)) bf_isinstance (ad_cons (d_v 0) (ad_cons (d_globR (T.glo (T.says.fact 21 rfl))) ad_nil))) (ad_cons (d_callB (k_isiX (io T)) (T.free (T.says.fact 6 rfl)) bf_isinstance (ad_cons (d_v 0) (ad_cons (d_globR (T.glo (T.says.fact 20 rfl))) ad_nil))) (ad_cons (d_callB (k_isiX (io T)) (T.free (T.says.fact 6 rfl)) bf_isinstance (ad_cons (d_v 0) (ad_cons (d_globR (T.glo (T.says.fact 19 rfl))) ad_nil))) (ad_cons (d_callB (k_isiX (io T)) (T.free (T.says.fact 6 rfl)) bf_isinstance (ad_cons (d_v 0) (ad_cons (d_globR (T.glo (T.says.fact 18 rfl))) ad_nil))) (ad_cons (d_callB (k_isiX (io T)) (T.free (T.says.fact 6 rfl)) bf_isinstance (ad_cons (d_v 0) (ad_cons (d_globR (T.glo (T.says.fact 17 rfl))) ad_nil))) (ad_cons (d_callB (k_isiX (io T)) (T.free (T.says.fact 6 rfl)) bf_isinstance (ad_cons (d_v 0) (ad_cons (d_globR (T.glo (T.says.fact 16 rfl))) ad_nil))) (ad_cons (d_callB (k_isiX (io T)) (T.free (T.says.fact 6 rfl)) bf_isinstance (ad_cons (d_v 0) (ad_cons (d_globR (T.glo (T.says.fact 15 rfl))) ad_nil))) (ad_cons (d_callB (k_isiX (io T)) (T.free (T.says.fact 6 rfl)) bf_isinstance (ad_cons (d_v 0) (ad_cons (d_globR (T.glo (T.says.fact 14 rfl))) ad_nil))) (ad_cons (d_callB (k_isiX (io T)) (T.free (T.says.fact 6 rfl)) bf_isinstance (ad_cons (d_v 0) (ad_cons (d_globR (T.glo (T.says.fact 13 rfl))) ad_nil))) (ad_cons (d_callB (k_isiX (io T)) (T.free (T.says.fact 6 rfl)) bf_isinstance (ad_cons (d_v 0) (ad_cons (d_globR (T.glo (T.says.fact 12 rfl))) ad_nil))) (ad_cons (d_callB (k_isiX (io T)) (T.free (T.says.fact 6 rfl)) bf_isinstance (ad_cons (d_v 0) (ad_cons (d_globR (T.glo (T.says.fact 42 rfl))) ad_nil))) (ad_cons (d_callB (k_isiX (io T)) (T.free (T.says.fact 6 rfl)) bf_isinstance (ad_cons (d_v 0) (ad_cons (d_globR (T.glo (T.says.fact 41 rfl))) ad_nil))) (ad_cons (d_callB (k_isiX (io T)) (T.free (T.says.fact 6 rfl)) bf_isinstance (ad_cons (d_v 0) (ad_cons (d_globR (T.glo (T.says.fact 40 rfl))) ad_nil))) (ad_cons (d_callB (k_isiX (io T)) (T.free (T.says.fact 6 rfl)) bf_isinstance (ad_cons (d_v 0) (ad_cons (d_globR (T.glo (T.says.fact 39 rfl))) ad_nil))) ad_nil)))))))))))))))))))))))))))))) (fun xs M Z Q h => ?_))
  obtain ⟨p, hp, v, rfl, q⟩ := h
  refine ⟨rfl, ?_⟩
  have hk := kd_exn (v := v) (M := M) hp
  have h1 := mro_leaf p.1 (tab_in p hp)
  generalize exnOf p v = d at hk
  simp [N__law_flags, t__law_flags_0, hk, sizeLine_eq]
  simp only [h1 "InvalidName" (by decide +kernel), h1 "InvalidWord" (by decide +kernel), h1 "InvalidStamp" (by decide +kernel), h1 "InvalidKey" (by decide +kernel), h1 "InvalidTest" (by decide +kernel), h1 "InvalidClause" (by decide +kernel), h1 "InvalidSources" (by decide +kernel), h1 "InvalidFate" (by decide +kernel), h1 "InvalidText" (by decide +kernel), h1 "InvalidPair" (by decide +kernel), h1 "InvalidLook" (by decide +kernel), h1 "InvalidDeed" (by decide +kernel), h1 "InvalidLimit" (by decide +kernel), h1 "DuplicateName" (by decide +kernel), h1 "DuplicateStamp" (by decide +kernel), h1 "DuplicateKey" (by decide +kernel), h1 "SameStamp" (by decide +kernel), h1 "SameCard" (by decide +kernel), h1 "OtherSources" (by decide +kernel), h1 "OtherDevice" (by decide +kernel), h1 "Stuck" (by decide +kernel), h1 "Full" (by decide +kernel), h1 "UnknownName" (by decide +kernel), h1 "UnknownPair" (by decide +kernel), h1 "UnknownNote" (by decide +kernel), h1 "NothingLeft" (by decide +kernel), optK_some]
  exact q
theorem fs__law_flags (T : Tx P K mg) : FnS P w K mg base (1) (He.fAd K ("_law_flags", none)) [] (fun xs _ M Z Q => spFlags xs M Z Q) := by
  obtain ⟨fd, F⟩ := fd__law_flags T
  exact fns_all (ok__law_flags T F) (F.bindsN fun _ _ _ _ _ _ us hl => match us, hl with | [_], _ => rfl)

end
end L2.Dl
namespace L2.Dl
open PySem PySem.Spec PyProof.Rows
section
variable {P : Program} {w : World} {K : PySem.W.Frag} {mg : Str → Option Value} {base : Heap}
abbrev codesD : List D := e22.map fun p => .str p.1
abbrev DS (ns : List Int) (g : Addr) (x3 x4 x5 x6 x7 x8 x9 x10 : Option D) : SD := [some (.scr ns), some (.ref g), some (.lst codesD), x3, x4, x5, x6, x7, x8, x9, x10]
theorem hA {α : Type} {l : List α} {k : Nat} {p : α} (h : l[k]? = some p) (f : α → D) : L2.atI (l.map f) (k : Int) = some (f p) := by
  have hl : k < l.length := by
    rcases Nat.lt_or_ge k l.length with h' | h'
    · exact h'
    · rw [List.getElem?_eq_none h'] at h; cases h
  unfold L2.atI ixN
  rw [if_pos (by omega), if_pos (by simp; omega)]
  simp [h]
def e3 : List (Str × Option Str) := (eTab.drop 22).take 3
theorem e22_in {p : Str × Option Str} (h : p ∈ e22) : p ∈ eTab := List.mem_of_mem_take h
theorem e3_in {p : Str × Option Str} (h : p ∈ e3) : p ∈ eTab := List.mem_of_mem_drop (List.mem_of_mem_take h)
theorem due_e22 : ∀ p ∈ e22, inD (.str p.1) [.str "OtherSources", .str "OtherDevice"] = p.2.isNone := by decide +kernel
def basesB (C : Str) : List Bool := ([.own "CardError", .own "Missing", .ty "ValueError", .ty "LookupError", .ty "IndexError"] : List KD).map fun c => decide (c ∈ ((isM.lookup (.own C)).getD []))
theorem basesB_eq (C : Str) : basesOf C = (basesB C).map D.bl := rfl
theorem bases_e22 : ∀ p ∈ e22, basesB p.1 = [true, false, true, false, false] := by decide +kernel
theorem bases_e3 : ∀ p ∈ e3, basesB p.1 = [false, true, false, true, false] := by decide +kernel
def leafB (C : Str) : List Bool := errs.map fun c => decide (c = C)
theorem leafB_eq (C : Str) : isLeaf C = (leafB C).map D.bl := by unfold isLeaf leafB; rw [List.map_map]; rfl
theorem leaf_k : ∀ k : Fin 26, ((eTab[k.1]?).map fun p => leafB p.1) = some ((List.range 26).map fun j : Nat => decide ((0 : Int) + (j : Int) = (k.1 : Nat))) := by decide +kernel
theorem leaf_at {k : Nat} {p : Str × Option Str} (h : eTab[k]? = some p) (hk : k < 26) : leafB p.1 = (List.range 26).map fun j : Nat => decide ((0 : Int) + (j : Int) = (k : Int)) := by
  have := leaf_k ⟨k, hk⟩
  simp only [h, Option.map_some, Option.some.injEq] at this
  exact this
theorem ne_bools (l : List Bool) : eqD (.lst (l.map D.bl)) (.lst (l.map D.bl)) = true := eqD_self (okD_bools l)
/-- [j == k for j in range(26)] -/
theorem lc_flags {te : TD} {ds : SD} {Q : QD} {M : MM} {k : Int} (h : ∀ j : Int, ∃ ds2, setT (.one 8) (.int j) ds = some ds2 ∧ ∀ Q' : QD, Q' (.bl (decide (j = k))) M → te ds2 M X0 Q') (q : Q (.lst (((List.range 26).map fun j : Nat => decide ((0 : Int) + (j : Int) = k)).map D.bl)) M) : lcGo (.one 8) dYes te ds Q (ranged 0 26) [] M := by
  refine lc_map (fun d => match d with | .int j => .bl (decide (j = k)) | _ => .non) _ _ (fun x hx => ?_) (by rw [sizeLine_eq]; simp [ranged_len]) ?_
  · obtain ⟨i, _, rfl⟩ := ranged_mem hx
    exact h _
  · unfold ranged
    rw [List.nil_append, List.map_map]
    rw [List.map_map] at q
    exact q

end
end L2.Dl
namespace L2.Dl
open PySem PySem.Spec PyProof.Rows
section
variable {P : Program} {w : World} {K : PySem.W.Frag} {mg : Str → Option Value} {base : Heap}
def N_law : List Str := ["_law_script", "_law_bag_here", "_law_codes", "_law_turn", "_law_a", "_law_every", "_law_k", "_law_due", "_law_j", "_law_lost", "_law_end"]
theorem sc_law : FnScope N_law ["_law_script"] (defScope s_law) := ⟨rfl, rfl, rfl, by decide +kernel, rfl, by decide +kernel, by decide +kernel⟩
theorem fd_law (T : Tx P K mg) : ∃ fd, FunD K "law" "law" (defArgs s_law) (defBody s_law) (defScope s_law) [] [] (He.fAd K ("law", none)) fd := T.says.def_ 8 (d := d_law) rfl
theorem kp_law (T : Tx P K mg) : PySem.W.keepIn K (.ref (He.fAd K ("law", none))) = true := (fd_law T).elim fun _ F => F.kp
def t_law_9 : TSD := (dRet (dC (.bl false)))
def t_law_11 : TSD := (dRet (dC (.bl false)))
def t_law_13 : TSD := (dRet (dC (.bl false)))
def t_law_12 : TSD := (dIfS (dTest (dOp dNe (dCallS (fun xs _ M Z Q => spFlags xs M Z Q) (dCons (dOp dIx (dVar 5) (dVar 6)) dNil) dNil) (dLc (iR1 (dC (.int 26))) (.one 8) dYes (dOp dEq (dVar 8) (dVar 6)) [8]))) t_law_13 dNext)
def t_law_10 : TSD := dSeq (dIfS (dTest (dOp dNe (dCallS (fun xs _ M Z Q => spBases xs M Z Q) (dCons (dOp dIx (dVar 5) (dVar 6)) dNil) dNil) (dLst (dCons (dC (.bl true)) (dCons (dC (.bl false)) (dCons (dC (.bl true)) (dCons (dC (.bl false)) (dCons (dC (.bl false)) dNil)))))))) t_law_11 dNext) t_law_12
def t_law_8 : TSD := dSeq (dIfS (dOr (dTest (dOp dNe (dXf errs "code" (dOp dIx (dVar 5) (dVar 6))) (dOp dIx (dVar 2) (dVar 6)))) (dNot (dTest (dCallS (fun xs _ M Z Q => likeSp 3 xs M Z Q) (dCons (dCallS (fun xs _ M Z Q => spField xs M Z Q) (dCons (dOp dIx (dVar 5) (dVar 6)) dNil) dNil) (dCons (dVar 7) dNil)) dNil)))) t_law_9 dNext) t_law_10
def t_law_7 : TSD := dSeq (dSet (dIf (dTest (dOp (dInG id) (dOp dIx (dVar 2) (dVar 6)) (dTup (dCons (dC (.str "OtherSources")) (dCons (dC (.str "OtherDevice")) dNil))))) (dC .non) (dVar 4)) 7) t_law_8
def t_law_17 : TSD := (dRet (dC (.bl false)))
def t_law_19 : TSD := (dRet (dC (.bl false)))
def t_law_21 : TSD := (dRet (dC (.bl false)))
def t_law_20 : TSD := (dIfS (dTest (dOp dNe (dCallS (fun xs _ M Z Q => spFlags xs M Z Q) (dCons (dOp dIx (dVar 9) (dVar 6)) dNil) dNil) (dLc (iR1 (dC (.int 26))) (.one 8) dYes (dOp dEq (dVar 8) (dOp dAdd (dC (.int 22)) (dVar 6))) [8]))) t_law_21 dNext)
def t_law_18 : TSD := dSeq (dIfS (dTest (dOp dNe (dCallS (fun xs _ M Z Q => spBases xs M Z Q) (dCons (dOp dIx (dVar 9) (dVar 6)) dNil) dNil) (dLst (dCons (dC (.bl false)) (dCons (dC (.bl true)) (dCons (dC (.bl false)) (dCons (dC (.bl true)) (dCons (dC (.bl false)) dNil)))))))) t_law_19 dNext) t_law_20
def t_law_16 : TSD := dSeq (dIfS (dOr (dTest (dOp dNe (dXf errs "code" (dOp dIx (dVar 9) (dVar 6))) (dOp dIx (dLst (dCons (dC (.str "UnknownName")) (dCons (dC (.str "UnknownPair")) (dCons (dC (.str "UnknownNote")) dNil)))) (dVar 6)))) (dNot (dTest (dCallS (fun xs _ M Z Q => likeSp 3 xs M Z Q) (dCons (dCallS (fun xs _ M Z Q => spField xs M Z Q) (dCons (dOp dIx (dVar 9) (dVar 6)) dNil) dNil) (dCons (dVar 4) dNil)) dNil)))) t_law_17 dNext) t_law_18
def t_law_15 : TSD := (dFor (iR1 (dC (.int 3))) (.one 6) t_law_16)
def t_law_14 : TSD := dSeq (dSet (dLst (dCons (dCallS (spErr1 "UnknownName" "UnknownName" "name") (dCons (dVar 4) dNil) dNil) (dCons (dCallS (fun xs ys M Z Q => ys.length = 1 ∧ spErrK "UnknownPair" "UnknownPair" "given" xs ys M Z Q) dNil (dCons (dVar 4) dNil)) (dCons (dCallS (fun xs ys M Z Q => ys.length = 1 ∧ spErrK "UnknownNote" "UnknownNote" "stamp" xs ys M Z Q) dNil (dCons (dVar 4) dNil)) dNil)))) 9) t_law_15
def t_law_6 : TSD := dSeq (dFor (iR1 (dCB dLen (dCons (dVar 2) dNil))) (.one 6) t_law_7) t_law_14
def t_law_5 : TSD := dSeq (dSet (dCallS (fun xs _ M Z Q => spErrors xs M Z Q) (dCons (dVar 4) dNil) dNil) 5) t_law_6
def t_law_4 : TSD := dSeq (dSet (dCallS (fun xs _ M Z Q => spOfD xs M Z Q) (dCons (dVar 1) (dCons (dLst (dCons (dC .non) (dCons (dC (.str "x")) (dCons (dC (.int 3)) (dCons (dTup (dCons (dC (.int 1)) (dCons (dC (.str "b")) dNil))) (dCons (dLst (dCons (dC (.str "y")) dNil)) (dCons (dC (.bl true)) (dCons (dC (.str "")) (dCons (dOp dSub (dC (.int 0)) (dOp dPow (dC (.int 10)) (dC (.int 19)))) dNil))))))))) dNil)) dNil) 4) t_law_5
def t_law_23 : TSD := (dRet (dAndV (dOp dEq (dXf errs "code" (dVar 10)) (dC (.str "NothingLeft"))) (dAndV (dOp dEq (dCallS (fun xs _ M Z Q => spBases xs M Z Q) (dCons (dVar 10) dNil) dNil) (dLst (dCons (dC (.bl false)) (dCons (dC (.bl false)) (dCons (dC (.bl false)) (dCons (dC (.bl true)) (dCons (dC (.bl true)) dNil))))))) (dOp dEq (dCallS (fun xs _ M Z Q => spFlags xs M Z Q) (dCons (dVar 10) dNil) dNil) (dLc (iR1 (dC (.int 26))) (.one 8) dYes (dOp dEq (dVar 8) (dC (.int 25))) [8])))))
def t_law_22 : TSD := dSeq (dSet (dCallS (spErr0 "NothingLeft" "NothingLeft") dNil dNil) 10) t_law_23
def t_law_3 : TSD := dSeq (dFor (iR1 (dC (.int 3))) (.one 3) t_law_4) t_law_22
def t_law_2 : TSD := dSeq (dSet (dOp dAdd (dVar 2) (dLst (dCons (dC (.str "DuplicateStamp")) (dCons (dC (.str "DuplicateKey")) (dCons (dC (.str "SameStamp")) (dCons (dC (.str "SameCard")) (dCons (dC (.str "OtherSources")) (dCons (dC (.str "OtherDevice")) (dCons (dC (.str "Stuck")) (dCons (dC (.str "Full")) dNil)))))))))) 2) t_law_3
def t_law_1 : TSD := dSeq (dSet (dLst (dCons (dC (.str "InvalidName")) (dCons (dC (.str "InvalidWord")) (dCons (dC (.str "InvalidStamp")) (dCons (dC (.str "InvalidKey")) (dCons (dC (.str "InvalidTest")) (dCons (dC (.str "InvalidClause")) (dCons (dC (.str "InvalidSources")) (dCons (dC (.str "InvalidFate")) (dCons (dC (.str "InvalidText")) (dCons (dC (.str "InvalidPair")) (dCons (dC (.str "InvalidLook")) (dCons (dC (.str "InvalidDeed")) (dCons (dC (.str "InvalidLimit")) (dCons (dC (.str "DuplicateName")) dNil))))))))))))))) 2) t_law_2
def t_law_0 : TSD := dSeq (dSet (dCallS (fun xs _ M Z Q => spBag xs M Z Q) (dCons (dVar 0) dNil) dNil) 1) t_law_1
theorem L12 {E : EndsD} {ns : List Int} {g : Addr} {x3 x7 x8 x9 x10 : Option D} {v : D} {k : Nat} {p : Str × Option Str} (hp : e22[k]? = some p) (hk : k < 22) {M : MM} (h : ∀ x8, E.nx (DS ns g x3 (some v) (some (.lst (e22.map fun p => exnOf p v))) (some (.int k)) x7 x8 x9 x10) M) :
    t_law_12 E (DS ns g x3 (some v) (some (.lst (e22.map fun p => exnOf p v))) (some (.int k)) x7 x8 x9 x10) M := by
  have hm : p ∈ e22 := List.mem_of_getElem? hp
  have hi := hA hp (fun p => exnOf p v)
  have ht : eTab[k]? = some p := by rw [← hp]; unfold e22; rw [List.getElem?_take, if_pos hk]
  have hl := leaf_at ht (by omega)
  simp [t_law_12, hi]
  refine ⟨p, e22_in hm, v, rfl, ?_⟩
  simp
  refine lc_flags (k := k) (fun j => ⟨_, rfl, fun Q' q => ?_⟩) ?_
  · simpa [DS] using q
  · rw [leafB_eq, hl]
    simp only [okD_bools, ne_bools]
    simp
    exact h _
theorem L10 {E : EndsD} {ns : List Int} {g : Addr} {x3 x7 x8 x9 x10 : Option D} {v : D} {k : Nat} {p : Str × Option Str} (hp : e22[k]? = some p) (hk : k < 22) {M : MM} (h : ∀ x8, E.nx (DS ns g x3 (some v) (some (.lst (e22.map fun p => exnOf p v))) (some (.int k)) x7 x8 x9 x10) M) :
    t_law_10 E (DS ns g x3 (some v) (some (.lst (e22.map fun p => exnOf p v))) (some (.int k)) x7 x8 x9 x10) M := by
  have hm : p ∈ e22 := List.mem_of_getElem? hp
  have hi := hA hp (fun p => exnOf p v)
  have hb := bases_e22 p hm
  have e1 : okD (.lst [.bl true, .bl false, .bl true, .bl false, .bl false]) = true := by decide +kernel
  simp [t_law_10, hi]
  refine ⟨p, e22_in hm, v, rfl, ?_⟩
  rw [basesB_eq, hb]
  simp [sizeLine_eq, e1, eqD_self e1]
  exact cut_go (L12 hp hk h)
theorem L7 {E : EndsD} {ns : List Int} {g : Addr} {x3 x7 x8 x9 x10 : Option D} {v : D} (hv : plainD 3 v = true) {k : Nat} {p : Str × Option Str} (hp : e22[k]? = some p) (hk : k < 22) {M : MM} (h : ∀ x7 x8, E.nx (DS ns g x3 (some v) (some (.lst (e22.map fun p => exnOf p v))) (some (.int k)) x7 x8 x9 x10) M) :
    t_law_7 E (DS ns g x3 (some v) (some (.lst (e22.map fun p => exnOf p v))) (some (.int k)) x7 x8 x9 x10) M := by
  have hm : p ∈ e22 := List.mem_of_getElem? hp
  have hi := hA hp (fun p => exnOf p v)
  have hj := hA hp (fun p => D.str p.1)
  have hd := due_e22 p hm
  have ht := tab_in p (e22_in hm)
  obtain ⟨C, o⟩ := p
  have e0 : okD (.str C) = true := rfl
  simp [t_law_7, hj, sizeLine_eq, flatD]
  rw [hd]
  cases o with
  | none =>
    simp
    refine cut_go ?_
    have hi' : L2.atI (e22.map fun p => exnOf p v) (k : Int) = some (.exn C [("code", .str C)]) := hi
    simp [t_law_8, hi', hj, ht, e0, eqD_self e0]
    refine ⟨(C, none), e22_in hm, v, rfl, ?_⟩
    simp
    refine ⟨.non, rfl, rfl, ?_⟩
    simp
    exact cut_go (L10 hp hk fun x8 => h _ x8)
  | some f =>
    simp
    refine cut_go ?_
    have hi' : L2.atI (e22.map fun p => exnOf p v) (k : Int) = some (.exn C [("code", .str C), (f, v)]) := hi
    simp [t_law_8, hi', hj, ht, e0, eqD_self e0]
    refine ⟨(C, some f), e22_in hm, v, rfl, ?_⟩
    simp
    refine ⟨v, rfl, hv, ?_⟩
    simp
    exact cut_go (L10 hp hk fun x8 => h _ x8)
theorem L20 {E : EndsD} {ns : List Int} {g : Addr} {x3 x5 x7 x8 x10 : Option D} {v : D} {k : Nat} {p : Str × Option Str} (hp : e3[k]? = some p) (hk : k < 3) {M : MM} (h : ∀ x8, E.nx (DS ns g x3 (some v) x5 (some (.int k)) x7 x8 (some (.lst (e3.map fun p => exnOf p v))) x10) M) :
    t_law_20 E (DS ns g x3 (some v) x5 (some (.int k)) x7 x8 (some (.lst (e3.map fun p => exnOf p v))) x10) M := by
  have hm : p ∈ e3 := List.mem_of_getElem? hp
  have hi := hA hp (fun p => exnOf p v)
  have ht : eTab[22 + k]? = some p := by rw [← hp]; unfold e3; rw [List.getElem?_take, if_pos hk, List.getElem?_drop]
  have hl := leaf_at ht (by omega)
  simp [t_law_20, hi]
  refine ⟨p, e3_in hm, v, rfl, ?_⟩
  simp
  refine lc_flags (k := ((22 + k : Nat) : Int)) (fun j => ⟨_, rfl, fun Q' q => ?_⟩) ?_
  · simpa [DS] using q
  · rw [leafB_eq, hl]
    simp only [okD_bools, ne_bools]
    simp
    exact h _
theorem L16 {E : EndsD} {ns : List Int} {g : Addr} {x3 x5 x7 x8 x10 : Option D} {v : D} (hv : plainD 3 v = true) {k : Nat} {p : Str × Option Str} (hp : e3[k]? = some p) (hk : k < 3) {M : MM} (h : ∀ x8, E.nx (DS ns g x3 (some v) x5 (some (.int k)) x7 x8 (some (.lst (e3.map fun p => exnOf p v))) x10) M) :
    t_law_16 E (DS ns g x3 (some v) x5 (some (.int k)) x7 x8 (some (.lst (e3.map fun p => exnOf p v))) x10) M := by
  have hm : p ∈ e3 := List.mem_of_getElem? hp
  have hi := hA hp (fun p => exnOf p v)
  have hj : L2.atI [D.str "UnknownName", .str "UnknownPair", .str "UnknownNote"] (k : Int) = some (.str p.1) := hA hp (fun p => D.str p.1)
  have hb := bases_e3 p hm
  have ht := tab_in p (e3_in hm)
  have hf : p.2.isSome = true := (show ∀ p ∈ e3, p.2.isSome = true by decide +kernel) p hm
  have e1 : okD (.lst [.bl false, .bl true, .bl false, .bl true, .bl false]) = true := by decide +kernel
  obtain ⟨C, o⟩ := p
  have e0 : okD (.str C) = true := rfl
  cases o with
  | none => cases hf
  | some f =>
    have hi' : L2.atI (e3.map fun p => exnOf p v) (k : Int) = some (.exn C [("code", .str C), (f, v)]) := hi
    simp [t_law_16, hi', hj, ht, e0, eqD_self e0, sizeLine_eq]
    refine ⟨(C, some f), e3_in hm, v, rfl, ?_⟩
    simp
    refine ⟨v, rfl, hv, ?_⟩
    simp
    refine cut_go ?_
    simp [t_law_18, hi]
    refine ⟨(C, some f), e3_in hm, v, rfl, ?_⟩
    rw [basesB_eq, hb]
    simp [sizeLine_eq, e1, eqD_self e1]
    exact cut_go (L20 hp hk h)
theorem ok_law (T : Tx P K mg) {fd : FuncData} (F : FunD K "law" "law" (defArgs s_law) (defBody s_law) (defScope s_law) [] [] (He.fAd K ("law", none)) fd) : FnOk P w K mg base (L2.CX P w) (5) (He.fAd K ("law", none)) fd ["_law_script"] (spOf K spLaw) := by
  refine (fn_d (k := 4) (sp := spLaw) (t := t_law_0) F sc_law (fun X cdv A outer s H E hX hr hp => by
    subst hX
    exact (s_cons (s_set (i := 1) sc_law.nd rfl (.inl rfl) (d_call (cal_fn (fs__law_bag T) (hr.mono (by omega))) (kp__law_bag T) (T.glo (T.says.fact 43 rfl)) (ad_cons (d_v 0) ad_nil)))
    (s_cons (s_set (i := 2) sc_law.nd rfl (.inl rfl) (d_lst (ad_cons d_str (ad_cons d_str (ad_cons d_str (ad_cons d_str (ad_cons d_str (ad_cons d_str (ad_cons d_str (ad_cons d_str (ad_cons d_str (ad_cons d_str (ad_cons d_str (ad_cons d_str (ad_cons d_str (ad_cons d_str ad_nil))))))))))))))))
    (s_cons (s_set (i := 2) sc_law.nd rfl (.inl rfl) (d_op o_add (d_v 2) (d_lst (ad_cons d_str (ad_cons d_str (ad_cons d_str (ad_cons d_str (ad_cons d_str (ad_cons d_str (ad_cons d_str (ad_cons d_str ad_nil)))))))))))
    (s_cons (s_for hp rfl (i_range1 (T.free (T.says.fact 44 rfl)) d_int) (g_one (i := 3) sc_law.nd rfl (.inl rfl))
    (s_cons (s_set (i := 4) sc_law.nd rfl (.inl rfl) (d_call (cal_fn (fs__law_of T) (hr.mono (by omega))) (kp__law_of T) (T.glo (T.says.fact 45 rfl)) (ad_cons (d_v 1) (ad_cons (d_lst (ad_cons d_non (ad_cons d_str (ad_cons d_int (ad_cons (d_tup (ad_cons d_int (ad_cons d_str ad_nil))) (ad_cons (d_lst (ad_cons d_str ad_nil)) (ad_cons d_bl (ad_cons d_str (ad_cons (d_op o_sub d_int (d_op o_pow d_int d_int)) ad_nil))))))))) ad_nil))))
    (s_cons (s_set (i := 5) sc_law.nd rfl (.inl rfl) (d_call (cal_fn (fs__law_errors T) (hr.mono (by omega))) (kp__law_errors T) (T.glo (T.says.fact 46 rfl)) (ad_cons (d_v 4) ad_nil)))
    (s_cons (s_for hp rfl (i_range1 (T.free (T.says.fact 44 rfl)) (d_callB k_len (T.free (T.says.fact 1 rfl)) bf_len (ad_cons (d_v 2) ad_nil))) (g_one (i := 6) sc_law.nd rfl (.inr rfl))
    (s_cons (s_set (i := 7) sc_law.nd rfl (.inl rfl) (d_if (d_tcmp (c_in (hu65 hr)) (d_ix (d_v 2) (d_v 6)) (d_tup (ad_cons d_str (ad_cons d_str ad_nil))) rfl) d_non (d_v 4)))
    (s_cons (s_if (PWD.pt (w_or (d_tcmp (c_ne hr.units) (d_xf (xf T (by decide)) (d_ix (d_v 5) (d_v 6))) (d_ix (d_v 2) (d_v 6)) (nomark _)) (w_or1 (t_not (d_tval (d_call (cal_fn (fs__law_like T 3) (hr.mono (by omega))) (kp__law_like T) (T.glo (T.says.fact 8 rfl)) (ad_cons (d_call (cal_fn (fs__law_field T) (hr.mono (by omega))) (kp__law_field T) (T.glo (T.says.fact 47 rfl)) (ad_cons (d_ix (d_v 5) (d_v 6)) ad_nil)) (ad_cons (d_v 7) ad_nil))))))))
    (s_one (s_ret d_bl))
    s_nil)
    (s_cons (s_if (d_tcmp (c_ne hr.units) (d_call (cal_fn (fs__law_bases T) (hr.mono (by omega))) (kp__law_bases T) (T.glo (T.says.fact 48 rfl)) (ad_cons (d_ix (d_v 5) (d_v 6)) ad_nil)) (d_lst (ad_cons d_bl (ad_cons d_bl (ad_cons d_bl (ad_cons d_bl (ad_cons d_bl ad_nil)))))) (nomark _))
    (s_one (s_ret d_bl))
    s_nil)
    (s_one (s_if (d_tcmp (c_ne hr.units) (d_call (cal_fn (fs__law_flags T) (hr.mono (by omega))) (kp__law_flags T) (T.glo (T.says.fact 49 rfl)) (ad_cons (d_ix (d_v 5) (d_v 6)) ad_nil)) (d_lc (own := [("_law_j", 8)]) (g := .one 8) rfl sc_law.nd (i_range1 (T.free (T.says.fact 44 rfl)) d_int) (blkOk_by (own := [("_law_j", 8)]) (N := N_law) (sc := defScope s_law) (by decide +kernel))
      (fun _ _ _ _ _ => pg_name (i := 8) sc_law.nd rfl (Or.inl rfl)) (fun _ _ _ _ _ => ts_nil) (fun _ _ _ _ _ => (d_cmp (c_eq hr.units) (d_v 8) (d_v 6) (nomark _)))) (nomark _))
    (s_one (s_ret d_bl))
    s_nil))))))
    (s_cons (s_set (i := 9) sc_law.nd rfl (.inl rfl) (d_lst (ad_cons (d_call (cal_err1 (ec_UnknownName T).1 ie_UnknownName (taker_none ((ec_UnknownName T).2.2 "code" (by decide))) (taker_none ((ec_UnknownName T).2.2 "name" (by decide))) (hr.mono (by omega))) (ec_UnknownName T).2.1.kp (T.glo (T.says.fact 42 rfl)) (ad_cons (d_v 4) ad_nil)) (ad_cons (d_callK0 (cal_errK (ec_UnknownPair T).1 ie_UnknownPair (taker_none ((ec_UnknownPair T).2.2 "code" (by decide))) (taker_none ((ec_UnknownPair T).2.2 "given" (by decide))) (hr.mono (by omega))) (ec_UnknownPair T).2.1.kp (T.glo (T.says.fact 41 rfl)) (kd_cons (d_v 4) kd_nil)) (ad_cons (d_callK0 (cal_errK (ec_UnknownNote T).1 ie_UnknownNote (taker_none ((ec_UnknownNote T).2.2 "code" (by decide))) (taker_none ((ec_UnknownNote T).2.2 "stamp" (by decide))) (hr.mono (by omega))) (ec_UnknownNote T).2.1.kp (T.glo (T.says.fact 40 rfl)) (kd_cons (d_v 4) kd_nil)) ad_nil)))))
    (s_one (s_for hp rfl (i_range1 (T.free (T.says.fact 44 rfl)) d_int) (g_one (i := 6) sc_law.nd rfl (.inr rfl))
    (s_cons (s_if (PWD.pt (w_or (d_tcmp (c_ne hr.units) (d_xf (xf T (by decide)) (d_ix (d_v 9) (d_v 6))) (d_ix (d_lst (ad_cons d_str (ad_cons d_str (ad_cons d_str ad_nil)))) (d_v 6)) (nomark _)) (w_or1 (t_not (d_tval (d_call (cal_fn (fs__law_like T 3) (hr.mono (by omega))) (kp__law_like T) (T.glo (T.says.fact 8 rfl)) (ad_cons (d_call (cal_fn (fs__law_field T) (hr.mono (by omega))) (kp__law_field T) (T.glo (T.says.fact 47 rfl)) (ad_cons (d_ix (d_v 9) (d_v 6)) ad_nil)) (ad_cons (d_v 4) ad_nil))))))))
    (s_one (s_ret d_bl))
    s_nil)
    (s_cons (s_if (d_tcmp (c_ne hr.units) (d_call (cal_fn (fs__law_bases T) (hr.mono (by omega))) (kp__law_bases T) (T.glo (T.says.fact 48 rfl)) (ad_cons (d_ix (d_v 9) (d_v 6)) ad_nil)) (d_lst (ad_cons d_bl (ad_cons d_bl (ad_cons d_bl (ad_cons d_bl (ad_cons d_bl ad_nil)))))) (nomark _))
    (s_one (s_ret d_bl))
    s_nil)
    (s_one (s_if (d_tcmp (c_ne hr.units) (d_call (cal_fn (fs__law_flags T) (hr.mono (by omega))) (kp__law_flags T) (T.glo (T.says.fact 49 rfl)) (ad_cons (d_ix (d_v 9) (d_v 6)) ad_nil)) (d_lc (own := [("_law_j", 8)]) (g := .one 8) rfl sc_law.nd (i_range1 (T.free (T.says.fact 44 rfl)) d_int) (blkOk_by (own := [("_law_j", 8)]) (N := N_law) (sc := defScope s_law) (by decide +kernel))
      (fun _ _ _ _ _ => pg_name (i := 8) sc_law.nd rfl (Or.inl rfl)) (fun _ _ _ _ _ => ts_nil) (fun _ _ _ _ _ => (d_cmp (c_eq hr.units) (d_v 8) (d_op o_add d_int (d_v 6)) (nomark _)))) (nomark _))
    (s_one (s_ret d_bl))
    s_nil)))))))))))
    (s_cons (s_set (i := 10) sc_law.nd rfl (.inl rfl) (d_call0 (cal_err0 (ec_NothingLeft T).1 ie_NothingLeft (taker_none ((ec_NothingLeft T).2.2 "code" (by decide))) (hr.mono (by omega))) (ec_NothingLeft T).2.1.kp (T.glo (T.says.fact 39 rfl))))
    (s_one (s_ret (d_and (d_cmp (c_eq hr.units) (d_xf (xf T (by decide)) (d_v 10)) d_str (nomark _)) (d_and (d_cmp (c_eq hr.units) (d_call (cal_fn (fs__law_bases T) (hr.mono (by omega))) (kp__law_bases T) (T.glo (T.says.fact 48 rfl)) (ad_cons (d_v 10) ad_nil)) (d_lst (ad_cons d_bl (ad_cons d_bl (ad_cons d_bl (ad_cons d_bl (ad_cons d_bl ad_nil)))))) (nomark _)) (d_one (d_cmp (c_eq hr.units) (d_call (cal_fn (fs__law_flags T) (hr.mono (by omega))) (kp__law_flags T) (T.glo (T.says.fact 49 rfl)) (ad_cons (d_v 10) ad_nil)) (d_lc (own := [("_law_j", 8)]) (g := .one 8) rfl sc_law.nd (i_range1 (T.free (T.says.fact 44 rfl)) d_int) (blkOk_by (own := [("_law_j", 8)]) (N := N_law) (sc := defScope s_law) (by decide +kernel))
      (fun _ _ _ _ _ => pg_name (i := 8) sc_law.nd rfl (Or.inl rfl)) (fun _ _ _ _ _ => ts_nil) (fun _ _ _ _ _ => (d_cmp (c_eq hr.units) (d_v 8) d_int (nomark _)))) (nomark _))))))))))))) (fun xs M Z Q h => ?_))
  obtain ⟨ns, rfl, rfl, q⟩ := h
  refine ⟨rfl, ?_⟩
  simp [N_law]
  simp [t_law_0]
  refine ⟨ns, rfl, fun g hg => cut_go ?_⟩
  simp [t_law_1, sizeLine_eq]
  refine cut_go ?_
  simp [t_law_2, sizeLine_eq]
  refine cut_go ?_
  simp [t_law_3]
  refine for_inv (fun _ ds M => M = [(g, .bag)] ∧ ∃ x3 x4 x5 x6 x7 x8 x9 x10, ds = DS ns g x3 x4 x5 x6 x7 x8 x9 x10) ?turn ?done _ _ _ ⟨rfl, _, _, _, _, _, _, _, _, rfl⟩
  case done =>
    rintro ds M ⟨rfl, x3, x4, x5, x6, x7, x8, x9, x10, rfl⟩
    refine cut_go ?_
    simp [t_law_22, ask]
    refine cut_go ?_
    have hC : ("NothingLeft" : Str) ∈ errs := by decide +kernel
    have hT : (("NothingLeft" : Str), (none : Option Str)) ∈ eTab := by decide +kernel
    have e0 : okD (.str "NothingLeft") = true := rfl
    have e1 : okD (.lst [.bl false, .bl false, .bl false, .bl true, .bl true]) = true := by decide +kernel
    have hb : basesB "NothingLeft" = [false, false, false, true, true] := by decide +kernel
    have hl := leaf_at (k := 25) (p := ("NothingLeft", none)) (by rfl) (by decide)
    simp [t_law_23]
    refine ⟨hC, e0, e0, ?_⟩
    rw [eqD_self e0]
    simp
    refine ⟨("NothingLeft", none), hT, .non, rfl, ?_⟩
    rw [basesB_eq, hb]
    simp [sizeLine_eq, e1, eqD_self e1]
    refine ⟨("NothingLeft", none), hT, .non, rfl, ?_⟩
    simp
    refine lc_flags (k := 25) (fun j => ⟨_, rfl, fun Q' q => ?_⟩) ?_
    · simpa [DS] using q
    · rw [leafB_eq, hl]
      simp only [okD_bools, ne_bools]
      simp
      exact q _
  case turn =>
    rintro x xs ds M ⟨rfl, x3, x4, x5, x6, x7, x8, x9, x10, rfl⟩
    refine ⟨_, rfl, fun E' h1 h2 h3 h4 h5 => ?_⟩
    simp [t_law_4, sizeLine_eq]
    refine ⟨g, _, _, rfl, look_cons, rfl, by simp, by simp, fun y hy => ?_⟩
    have hv : plainD 3 y = true := by
      simp at hy
      rcases hy with h | h | h | h | h | h | h | h <;> subst h <;> rfl
    refine cut_go ?_
    simp [t_law_5]
    refine ⟨y, rfl, cut_go ?_⟩
    simp [t_law_6]
    refine ⟨by decide, ?_⟩
    refine for_inv (fun ys ds M => M = [(g, .bag)] ∧ (∀ z ∈ ys, ∃ k : Nat, k < 22 ∧ z = .int k) ∧ ∃ x3 x6 x7 x8 x9 x10, ds = DS ns g x3 (some y) (some (.lst (e22.map fun p => exnOf p y))) x6 x7 x8 x9 x10) ?turn1 ?done1 _ _ _ ⟨rfl, fun z hz => ?_, _, _, _, _, _, _, rfl⟩
    case turn1 =>
      rintro x xs ds M ⟨rfl, hz, x3, x6, x7, x8, x9, x10, rfl⟩
      obtain ⟨k, hk, rfl⟩ := hz x List.mem_cons_self
      refine ⟨_, rfl, fun E2 g1 g2 g3 g4 g5 => ?_⟩
      have hp : e22[k]? = some (e22[k]'(hk)) := List.getElem?_eq_getElem _
      exact L7 hv hp hk fun x7 x8 => g4 _ _ ⟨rfl, fun z hz' => hz z (List.mem_cons_of_mem _ hz'), _, _, _, _, _, _, rfl⟩
    case done1 =>
      rintro ds M ⟨rfl, _, x3, x6, x7, x8, x9, x10, rfl⟩
      refine cut_go ?_
      simp [t_law_14]
      refine ⟨rfl, rfl, (by rw [sizeLine_eq]; simp), ?_⟩
      show cut t_law_15 _ _ _
      refine cut_go ?_
      simp [t_law_15]
      refine for_inv (fun ys ds M => M = [(g, .bag)] ∧ (∀ z ∈ ys, ∃ k : Nat, k < 3 ∧ z = .int k) ∧ ∃ x3 x5 x6 x7 x8 x10, ds = DS ns g x3 (some y) x5 x6 x7 x8 (some (.lst (e3.map fun p => exnOf p y))) x10) ?turn2 ?done2 _ _ _ ⟨rfl, fun z hz => ?_, _, _, _, _, _, _, rfl⟩
      case turn2 =>
        rintro x xs ds M ⟨rfl, hz, x3, x5, x6, x7, x8, x10, rfl⟩
        obtain ⟨k, hk, rfl⟩ := hz x List.mem_cons_self
        refine ⟨_, rfl, fun E2 g1 g2 g3 g4 g5 => ?_⟩
        have hp : e3[k]? = some (e3[k]'(hk)) := List.getElem?_eq_getElem _
        exact L16 hv hp hk fun x8 => g4 _ _ ⟨rfl, fun z hz' => hz z (List.mem_cons_of_mem _ hz'), _, _, _, _, _, _, rfl⟩
      case done2 =>
        rintro ds M ⟨rfl, _, x3, x5, x6, x7, x8, x10, rfl⟩
        exact h4 _ _ ⟨rfl, _, _, _, _, _, _, _, _, rfl⟩
      · obtain ⟨i, hi, rfl⟩ := ranged_mem hz
        exact ⟨i, hi, by simp⟩
    · obtain ⟨i, hi, rfl⟩ := ranged_mem hz
      exact ⟨i, hi, by simp⟩

theorem fs_law (T : Tx P K mg) : FnS P w K mg base (5) (He.fAd K ("law", none)) [] (fun xs _ M Z Q => spLaw xs M Z Q) := by
  obtain ⟨fd, F⟩ := fd_law T
  exact fns_all (ok_law T F) (F.bindsN fun _ _ _ _ _ _ us hl => match us, hl with | [_], _ => rfl)

end
end L2.Dl
set_option maxHeartbeats 0
namespace L2.Dl
open PySem PySem.Spec PyProof.Rows
abbrev R : PySem.W.OpenRow := PySem.W.OpenLaw.row PySem.Challenge.rw_cardsapart_k01_errors_by_themselves
abbrev hk : PySem.W.Hook := hookY 4 fa fn fx fe
def ob (s : PySem.W.SharedT) : AlY := obsYG 4 fa fn fx fe (HandSHeadRun.getT s)
theorem ob_eq (s : PySem.W.SharedT) : ob s = hk.obs s.abs := obsYG_eq (HandSHeadRun.getT_eq s)
def loose : List PySem.Str := (["CardError", "Missing", "InvalidName", "InvalidWord", "InvalidStamp", "InvalidKey", "InvalidTest", "InvalidClause", "InvalidSources", "InvalidFate", "InvalidText", "InvalidPair", "InvalidLook", "InvalidDeed", "InvalidLimit", "DuplicateName", "DuplicateStamp", "DuplicateKey", "SameStamp", "SameCard", "OtherSources", "OtherDevice", "Stuck", "Full", "UnknownName", "UnknownPair", "UnknownNote", "NothingLeft", "_law_bag", "_law_pick"] : List PySem.Str) ++ (["_law_of", "_law_like", "_law_field", "_law_errors", "_law_flags", "_law_bases"] : List PySem.Str)
theorem run (w : World) : HandSHeadRun.RunEq R (PySem.W.view R.prog [38]) hk ob 8000 loose w := by
  intro os
  kernel_rfl
theorem facts {P : Program} {w : World} {K : PySem.W.Frag} {h : Heap} {mg : Str → Option Value} {f : Addr} (X : K.In h) (G : h.Ns mainGlobals mg) (hfa : mg ("law" : Str) = some (.ref f)) (hP : PFile P "/claim/cut.py") (c : SaysY fa fn fx fe K) :
    ∃ fd : FuncData, (∀ (s : Shared) (v : Value), BindsTo s fd ⟨[v], []⟩ [("_law_script", v)]) ∧ ∀ base : Heap, K.In base → base.Ns mainGlobals mg → FnOk P w K mg base (L2.CX P w) 5 f fd ["_law_script"] (spOf K spLaw) := by
  have T : Tx P K mg := topY_of hP X G c
  obtain ⟨fd, F⟩ := fd_law T
  have e := hfa.symm.trans (T.glo (T.says.fact 50 rfl))
  cases e
  have b := FunD.bindsA (ps := ["_law_script"]) F fun _ _ _ _ _ _ us hl => match us, hl with | [_], _ => rfl
  exact ⟨fd, fun s v => b s [v] rfl, fun base _ _ => ok_law T F⟩
end L2.Dl
open PySem PySem.W PySem.Calls PyProof.Rows
theorem PySem.Challenge.cw_cardsapart_k01_errors_by_themselves_holds : PySem.Challenge.rw_cardsapart_k01_errors_by_themselves.Holds := by
  w_on; o_law
  refine HandSHeadRun.head_any (r := OpenLaw.row PySem.Challenge.rw_cardsapart_k01_errors_by_themselves) (q := view (OpenLaw.row PySem.Challenge.rw_cardsapart_k01_errors_by_themselves).prog [38]) (H := L2.Dl.hk) (ob := L2.Dl.ob) (M := 8000) (loose := L2.Dl.loose) (d := HandSHeadRun.topDef (OpenLaw.row PySem.Challenge.rw_cardsapart_k01_errors_by_themselves).prog 38) (kwd := []) L2.Dl.ob_eq
    (by kernel_rfl) (fun s => by kernel_rfl) L2.Dl.run (by kernel_rfl) (by kernel_rfl) (by kernel_rfl) (by rfl) (by first | assumption | decide +kernel) (by decide +kernel) ⟨rfl, rfl, rfl, rfl, rfl, by decide +kernel⟩ ?hw ?hc
  case hw => w_witness2
  case hc =>
    refine L2.walk_ofE (l := PySem.Challenge.rw_cardsapart_k01_errors_by_themselves) (n := 63) (k := 5) (x := "_law_script") (CX := fun outer H s E e s' => ∃ w, L2.CX (PySem.Challenge.rw_cardsapart_k01_errors_by_themselves).prog w outer H s E e s') rfl (by decide) (by kernel_rfl) ⟨rfl, by decide, by decide⟩ ?F (fun H s e s' ⟨w, z⟩ => L2.Dl.cx_false H s e s' z)
    intro w mg fa h Y G hmg0
    obtain ⟨K, KX, c⟩ := Y
    have hmg : mg ("law" : PySem.Str) = some (.ref fa) := by
      have e : (HandSHeadRun.topDef (OpenLaw.row PySem.Challenge.rw_cardsapart_k01_errors_by_themselves).prog 38).name = ("law" : PySem.Str) := by kernel_rfl
      rw [← e]
      exact hmg0
    obtain ⟨fd, hb, hF⟩ := L2.Dl.facts (P := (PySem.Challenge.rw_cardsapart_k01_errors_by_themselves).prog) (w := w) KX G hmg ⟨by kernel_rfl, by kernel_rfl⟩ c
    exact ⟨K, fd, L2.Dl.spOf K L2.Dl.spLaw, KX, hb, fun H a ns hl _ hS => L2.Dl.law_sp hS, fun base kb nb => L2.Dl.fn_cx (hF base kb nb)⟩
