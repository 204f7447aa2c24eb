import PyProof.Rows.All
import Wide.All
import OpenK.AllK
import Wide.FinOn
import HandS.Lambda
import KE.KDflt
import HandS.ForMost
import HandS.ForExc
import HandS.IsInst
import HandS.Wide
import HandS.Defaults
import HandS.Walk
import HandS.HeadHook2
import HandS.ExcField
import HandS.TryMany
import HandS.Property
import HandS.Star
import HandS.MakeKw
import HandS.MakeKwOnly
import HandS.ClsMeth
import HandS.Deep
import HandS.TupAny
import HandS.More
import HandS.Zip
import HandS.HeadEnd
import HandS.Head2
import KE.KExcSuper
import KE.KSuper
import HandS.ExcInit
import KE.KExcIs
import HandS.FStr
import PyProof.Rows.ReprOcc
import KE.KIntText
import KE.IntTextText
import KE.IntTextLaws
import PyProof.Rows.CallKw2
import KE.KTryMore
import HandS.EndTab
import KE.GoesMore
import HandS.DictComp
import HandS.TupLe
import HandS.NoneIn
import KE.SortKeyHeap
import HandS.SortKw
import HandS.Style
import OpenK.KOps
import HandS.Conv
import PyProof.Rows.StrMul
import HandS.RaiseMore
import PyProof.FString2
import PyProof.CallStr
import HandS.SetBool
import HandS.SetKeys
import HandS.SetFor
import PyProof.SeqRoads2
import PySem.Challenge.RW_cardsapart_k52_looks_refused
set_option Elab.async false
set_option linter.all false
set_option maxRecDepth 100000
set_option maxHeartbeats 4000000
namespace L2.Dl
open PySem PySem.Spec PyProof.Rows

/-! ### texts -/
theorem okS_iff {x : Str} : PyData.strOk x = true ↔ ∀ c ∈ x.cps.toList, c < 0x110000 := by
  unfold PyData.strOk
  rw [Array.all_eq_true']
  simp
theorem okS_app {x y : Str} (hx : PyData.strOk x = true) (hy : PyData.strOk y = true) : PyData.strOk (x ++ y) = true := by
  rw [okS_iff] at *
  intro c hc
  have : c ∈ x.cps.toList ++ y.cps.toList := by
    have e : (x ++ y).cps.toList = x.cps.toList ++ y.cps.toList := by show (x.cps ++ y.cps).toList = _; simp
    rw [← e]; exact hc
  rcases List.mem_append.mp this with h | h
  · exact hx c h
  · exact hy c h
theorem okS_one {x : Str} {c : Nat} (hx : PyData.strOk x = true) (h : c ∈ x.cps.toList) : PyData.strOk ⟨#[c]⟩ = true := by
  rw [okS_iff] at *
  intro d hd
  simp at hd
  subst hd
  exact hx d h
theorem okS_sub {x : Str} {l : List Nat} (hx : PyData.strOk x = true) (h : ∀ c ∈ l, c ∈ x.cps.toList) : PyData.strOk ⟨l.toArray⟩ = true := by
  rw [okS_iff] at *
  intro d hd
  exact hx d (h d (by simpa using hd))

/-! ### data -/
inductive D where
  | non | bl (b : Bool) | int (i : Int) | str (x : Str) | ty (n : String)
  | lst (xs : List D) | tup (xs : List D) | obj (C : Str) (fs : List (Str × D)) | exn (C : Str) (fs : List (Str × D)) | dK (kvs : List (Key × D)) | dT (kvs : List (List Key × D)) | ref (a : Addr) | glo (x : Str) | scr (ns : List Int)
  /-- a lambda: its object; what its maker's slots have -/
  | act (o : Unit → Obj) (vs : List V) (ds : List D)
/-- a thing that may change -/
inductive MO where
  | lst (xs : List D) | obj (C : Str) (fs : List (Str × D)) | dK (kvs : List (Key × D)) | dT (kvs : List (List Key × D)) | bag
  /-- a table of code objects -/
  | tab (q : Str)
  /-- a tuple that was made here -/
  | tup (xs : List D)
abbrev MM := List (Addr × MO)
abbrev keys (M : MM) : List Addr := M.map (·.1)
/-- .. and what lies hidden (a list that a comprehension fills) -/
abbrev ak (F : List Addr) (M : MM) : List Addr := keys M ++ F

def KT (K : PySem.W.Frag) (a : Addr) (xs : List V) : Prop := ∃ (o : Obj) (its : Array Value) (n : Nat), K.lookup a = some o ∧ o.cls = .type "tuple" ∧ o.data = .seq its n ∧ its.size ≤ sizeLine ∧ Vals xs its.toList
/-- the script -/
def BS (K : PySem.W.Frag) (B : List Addr) (H : Hp) (a : Addr) (xs : List V) : Prop := (a ∉ B ∧ Rd H a (.lst xs)) ∨ ∃ (o : Obj) (its : Array Value) (n : Nat), K.lookup a = some o ∧ o.cls = .type "list" ∧ o.dict = none ∧ o.data = .seq its n ∧ its.size ≤ sizeLine ∧ Vals xs its.toList
theorem BS.sq {K : PySem.W.Frag} {B : List Addr} {H : Hp} {a : Addr} {xs : List V} (h : BS K B H a xs) : SqL K H a xs := by
  rcases h with h | h
  · exact .inl h.2
  · exact .inr h
/-- a list that stands still -/
def BL (B : List Addr) (H : Hp) (a : Addr) (xs : List V) : Prop := a ∉ B ∧ H a = some (.lst xs)
def BT (K : PySem.W.Frag) (B : List Addr) (H : Hp) (a : Addr) (xs : List V) : Prop := (a ∉ B ∧ H a = some (.tup xs)) ∨ KT K a xs
theorem BL.sq {K : PySem.W.Frag} {B : List Addr} {H : Hp} {a : Addr} {xs : List V} (h : BL B H a xs) : SqL K H a xs := .inl (.inl h.2)
theorem BT.sq {K : PySem.W.Frag} {B : List Addr} {H : Hp} {a : Addr} {xs : List V} (h : BT K B H a xs) : SqT K H a xs := by
  rcases h with h | h
  · exact .inl (.inl h.2)
  · exact .inr h
/-- the lambda at f: its object, its code object, what its parameter has -/
def LamOk (B : List Addr) (H : Hp) (f : Addr) (o : Obj) : Prop := f ∉ B ∧ H f = some (.frz o (.own f)) ∧ ∃ (fd : FuncData) (c : Addr), o.data = .func fd ∧ fd.code = .ref c ∧ c ∉ B ∧ H c = some (LamX.CodeO c fd.qualname) ∧
  (fd.defaults = .none ∨ ∃ (t : Addr) (v : Value), fd.defaults = .ref t ∧ t ∉ B ∧ H t = some (.frz (PySem.W.kdv_tup [v]) (.own t)))
mutual
inductive Rep (K : PySem.W.Frag) (B : List Addr) (H : Hp) : V → D → Prop
  | non : Rep K B H .non .non
  | bl (b : Bool) : Rep K B H (.bl b) (.bl b)
  | int (i : Int) : Rep K B H (.int i) (.int i)
  | str (x : Str) : PyData.strOk x = true → Rep K B H (.str x) (.str x)
  | ty (n : String) : Rep K B H (.ty n) (.ty n)
  | lst {a : Addr} {xs : List V} {ds : List D} : BL B H a xs → RepA K B H xs ds → Rep K B H (.ref a) (.lst ds)
  | tup {a : Addr} {xs : List V} {ds : List D} : BT K B H a xs → RepA K B H xs ds → Rep K B H (.ref a) (.tup ds)
  | obj {a dx : Addr} {C : Str} {vs : List (Str × V)} {fs : List (Str × D)} : a ∉ B → H a = some (.ins (He.ga K C) dx vs) → RepF K B H Str vs fs → Rep K B H (.ref a) (.obj C fs)
  | exn {a d : Addr} {C : Str} {oe : Obj} {vs : List (Str × V)} {fs : List (Str × D)} : a ∉ B → H a = some (.frz oe (.own a)) → Zc (.ref (He.ga K C)) (some d) oe → (∃ zs, oe.data = .fields zs) → d ∉ B → H d = some (.xd vs) → RepF K B H Str vs fs → Rep K B H (.ref a) (.exn C fs)
  | dK {a : Addr} {vs : List (Key × V)} {fs : List (Key × D)} : a ∉ B → H a = some (.dK vs) → RepF K B H Key vs fs → Rep K B H (.ref a) (.dK fs)
  | dT {a : Addr} {vs : List (List Key × V)} {fs : List (List Key × D)} : a ∉ B → H a = some (.dT vs) → RepF K B H (List Key) vs fs → Rep K B H (.ref a) (.dT fs)
  | ref (a : Addr) : Rep K B H (.ref a) (.ref a)
  | glo (x : Str) : Rep K B H (.ref (He.ga K x)) (.glo x)
  | scr {a : Addr} {ns : List Int} : BS K B H a (ns.map V.int) → Rep K B H (.ref a) (.scr ns)
  | act {f : Addr} {o : Unit → Obj} {vs : List V} {ds : List D} : LamOk B H f (o ()) → RepA K B H vs ds → Rep K B H (.ref f) (.act o vs ds)
inductive RepA (K : PySem.W.Frag) (B : List Addr) (H : Hp) : List V → List D → Prop
  | nil : RepA K B H [] []
  | cons {v : V} {vs : List V} {d : D} {ds : List D} : Rep K B H v d → RepA K B H vs ds → RepA K B H (v :: vs) (d :: ds)
inductive RepF (K : PySem.W.Frag) (B : List Addr) (H : Hp) : (κ : Type) → List (κ × V) → List (κ × D) → Prop
  | nil {κ : Type} : RepF K B H κ [] []
  | cons {κ : Type} {f : κ} {v : V} {vs : List (κ × V)} {d : D} {ds : List (κ × D)} : Rep K B H v d → RepF K B H κ vs ds → RepF K B H κ ((f, v) :: vs) ((f, d) :: ds)
end

/-- from one heap to a later one -/
structure Stp (H : Hp) (B : List Addr) (H' : Hp) (B' : List Addr) : Prop where
  keep : ∀ b o, b ∉ B → H b = some o → H' b = some o
  new : ∀ b, b ∈ B' → b ∈ B ∨ H b = none
theorem Stp.refl (H : Hp) (B : List Addr) : Stp H B H B := ⟨fun _ _ _ h => h, fun _ h => .inl h⟩
theorem Stp.trans {H H1 H2 : Hp} {B B1 B2 : List Addr} (a : Stp H B H1 B1) (b : Stp H1 B1 H2 B2) : Stp H B H2 B2 := by
  refine ⟨fun c o hc e => b.keep c o (fun z => ?_) (a.keep c o hc e), fun c hc => ?_⟩
  · rcases a.new c z with z | z
    · exact hc z
    · rw [z] at e; cases e
  · rcases b.new c hc with z | z
    · exact a.new c z
    · by_cases hb : c ∈ B
      · exact .inl hb
      · refine .inr ?_
        cases q : H c with
        | none => rfl
        | some o => rw [a.keep c o hb q] at z; cases z
theorem Stp.out {H H' : Hp} {B B' : List Addr} (s : Stp H B H' B') {a : Addr} {o : HO} (ha : a ∉ B) (e : H a = some o) : a ∉ B' ∧ H' a = some o := by
  refine ⟨fun z => ?_, s.keep a o ha e⟩
  rcases s.new a z with z | z
  · exact ha z
  · rw [z] at e; cases e
/-- what stands still goes on standing still -/
def Fix (H : Hp) (A : List Addr) (H' : Hp) (A' : List Addr) : Prop := ∀ a o, a ∉ A → H a = some o → a ∉ A' ∧ H' a = some o
theorem Fix.rd {H H' : Hp} {B B' : List Addr} (s : Fix H B H' B') {a : Addr} {o : HO} (ha : a ∉ B) (e : Rd H a o) : a ∉ B' ∧ Rd H' a o := by
  rcases e with e | ⟨ob, e⟩
  · obtain ⟨h1, h2⟩ := s a _ ha e
    exact ⟨h1, .inl h2⟩
  · obtain ⟨h1, h2⟩ := s a _ ha e
    exact ⟨h1, .inr ⟨ob, h2⟩⟩
theorem Fix.bl {H H' : Hp} {B B' : List Addr} (s : Fix H B H' B') {a : Addr} {xs : List V} (h : BL B H a xs) : BL B' H' a xs := s a _ h.1 h.2
theorem Fix.bt {K : PySem.W.Frag} {H H' : Hp} {B B' : List Addr} (s : Fix H B H' B') {a : Addr} {xs : List V} (h : BT K B H a xs) : BT K B' H' a xs := by
  rcases h with ⟨h1, h2⟩ | h
  · exact .inl (s a _ h1 h2)
  · exact .inr h
theorem Fix.bs {K : PySem.W.Frag} {H H' : Hp} {B B' : List Addr} (s : Fix H B H' B') {a : Addr} {xs : List V} (h : BS K B H a xs) : BS K B' H' a xs := by
  rcases h with ⟨h1, h2⟩ | h
  · exact .inl (s.rd h1 h2)
  · exact .inr h
theorem Stp.fix {H H' : Hp} {B B' F : List Addr} (s : Stp H B H' B') : Fix H (B ++ F) H' (B' ++ F) := fun a o ha e => by
  rw [List.mem_append, not_or] at ha
  obtain ⟨h1, h2⟩ := s.out ha.1 e
  exact ⟨by rw [List.mem_append, not_or]; exact ⟨h1, ha.2⟩, h2⟩
theorem LamOk.step {H H' : Hp} {B B' : List Addr} (s : Fix H B H' B') {f : Addr} {o : Obj} (h : LamOk B H f o) : LamOk B' H' f o := by
  obtain ⟨h1, h2, fd, c, h3, h4, h5, h6, h7⟩ := h
  refine ⟨(s _ _ h1 h2).1, (s _ _ h1 h2).2, fd, c, h3, h4, (s _ _ h5 h6).1, (s _ _ h5 h6).2, ?_⟩
  rcases h7 with h7 | ⟨t, v, e1, e2, e3⟩
  · exact .inl h7
  · exact .inr ⟨t, v, e1, (s _ _ e2 e3).1, (s _ _ e2 e3).2⟩
mutual
theorem Rep.step {K : PySem.W.Frag} {H H' : Hp} {B B' : List Addr} (s : Fix H B H' B') : ∀ {v : V} {d : D}, Rep K B H v d → Rep K B' H' v d
  | _, _, .non => .non
  | _, _, .bl b => .bl b
  | _, _, .int i => .int i
  | _, _, .str x h => .str x h
  | _, _, .ty n => .ty n
  | _, _, .lst h r => .lst (s.bl h) (RepA.step s r)
  | _, _, .tup h r => .tup (s.bt h) (RepA.step s r)
  | _, _, .obj h1 h2 r => .obj (s _ _ h1 h2).1 (s _ _ h1 h2).2 (RepF.step s r)
  | _, _, .exn h1 h2 z f d1 d2 r => .exn (s _ _ h1 h2).1 (s _ _ h1 h2).2 z f (s _ _ d1 d2).1 (s _ _ d1 d2).2 (RepF.step s r)
  | _, _, .dK h1 h2 r => .dK (s _ _ h1 h2).1 (s _ _ h1 h2).2 (RepF.step s r)
  | _, _, .dT h1 h2 r => .dT (s _ _ h1 h2).1 (s _ _ h1 h2).2 (RepF.step s r)
  | _, _, .glo x => .glo x
  | _, _, .ref a => .ref a
  | _, _, .scr h => .scr (s.bs h)
  | _, _, .act h r => .act (h.step s) (RepA.step s r)
theorem RepA.step {K : PySem.W.Frag} {H H' : Hp} {B B' : List Addr} (s : Fix H B H' B') : ∀ {vs : List V} {ds : List D}, RepA K B H vs ds → RepA K B' H' vs ds
  | _, _, .nil => .nil
  | _, _, .cons h r => .cons (Rep.step s h) (RepA.step s r)
theorem RepF.step {K : PySem.W.Frag} {H H' : Hp} {B B' : List Addr} (s : Fix H B H' B') : ∀ {κ : Type} {vs : List (κ × V)} {ds : List (κ × D)}, RepF K B H κ vs ds → RepF K B' H' κ vs ds
  | _, _, _, .nil => .nil
  | _, _, _, .cons h r => .cons (Rep.step s h) (RepF.step s r)
end
theorem RepA.len {K : PySem.W.Frag} {B : List Addr} {H : Hp} : ∀ {vs : List V} {ds : List D}, RepA K B H vs ds → vs.length = ds.length
  | _, _, .nil => rfl
  | _, _, .cons _ r => congrArg Nat.succ (RepA.len r)
theorem RepA.get {K : PySem.W.Frag} {B : List Addr} {H : Hp} : ∀ {vs : List V} {ds : List D} {i : Nat} {d : D}, RepA K B H vs ds → ds[i]? = some d → ∃ v, vs[i]? = some v ∧ Rep K B H v d
  | _, _, _, _, .nil, e => by simp at e
  | _, _, 0, _, .cons h _, e => by simp at e; subst e; exact ⟨_, rfl, h⟩
  | _, _, i + 1, d, .cons _ r, e => by
    obtain ⟨v, h1, h2⟩ := RepA.get (i := i) (d := d) r (by simpa using e)
    exact ⟨v, by simpa using h1, h2⟩
theorem RepA.getV {K : PySem.W.Frag} {B : List Addr} {H : Hp} : ∀ {vs : List V} {ds : List D} {i : Nat} {v : V}, RepA K B H vs ds → vs[i]? = some v → ∃ d, ds[i]? = some d ∧ Rep K B H v d
  | _, _, _, _, .nil, e => by simp at e
  | _, _, 0, _, .cons h _, e => by simp at e; subst e; exact ⟨_, rfl, h⟩
  | _, _, i + 1, v, .cons _ r, e => by
    obtain ⟨d, h1, h2⟩ := RepA.getV (i := i) (v := v) r (by simpa using e)
    exact ⟨d, by simpa using h1, h2⟩
theorem RepA.append {K : PySem.W.Frag} {B : List Addr} {H : Hp} : ∀ {vs ws : List V} {ds es : List D}, RepA K B H vs ds → RepA K B H ws es → RepA K B H (vs ++ ws) (ds ++ es)
  | _, _, _, _, .nil, s => s
  | _, _, _, _, .cons h r, s => .cons h (RepA.append r s)
theorem RepA.take {K : PySem.W.Frag} {B : List Addr} {H : Hp} : ∀ {vs : List V} {ds : List D} (n : Nat), RepA K B H vs ds → RepA K B H (vs.take n) (ds.take n)
  | _, _, 0, _ => .nil
  | _, _, _ + 1, .nil => .nil
  | _, _, n + 1, .cons h r => .cons h (RepA.take n r)
theorem RepA.drop {K : PySem.W.Frag} {B : List Addr} {H : Hp} : ∀ {vs : List V} {ds : List D} (n : Nat), RepA K B H vs ds → RepA K B H (vs.drop n) (ds.drop n)
  | _, _, 0, r => r
  | _, _, _ + 1, .nil => .nil
  | _, _, n + 1, .cons _ r => RepA.drop n r
theorem RepA.set {K : PySem.W.Frag} {B : List Addr} {H : Hp} {v : V} {d : D} (h : Rep K B H v d) : ∀ {vs : List V} {ds : List D} (i : Nat), RepA K B H vs ds → RepA K B H (vs.set i v) (ds.set i d)
  | _, _, _, .nil => .nil
  | _, _, 0, .cons _ r => .cons h r
  | _, _, i + 1, .cons q r => .cons q (RepA.set h i r)
theorem RepF.look {K : PySem.W.Frag} {B : List Addr} {H : Hp} : ∀ {κ : Type} {vs : List (κ × V)} {ds : List (κ × D)}, RepF K B H κ vs ds → ∀ [BEq κ] {f : κ} {d : D}, ds.lookup f = some d → ∃ v, vs.lookup f = some v ∧ Rep K B H v d
  | _, _, _, .nil, _, _, _, e => by simp at e
  | κ, _, _, @RepF.cons _ _ _ _ g v vs d' ds h r, i, f, d, e => by
    by_cases q : (f == g) = true
    · simp only [List.lookup, q] at e ⊢
      exact ⟨v, rfl, by cases e; exact h⟩
    · have q' : (f == g) = false := by simpa using q
      simp only [List.lookup, q'] at e ⊢
      exact RepF.look r e
theorem RepF.lookN {K : PySem.W.Frag} {B : List Addr} {H : Hp} : ∀ {κ : Type} {vs : List (κ × V)} {ds : List (κ × D)}, RepF K B H κ vs ds → ∀ [BEq κ] {f : κ}, ds.lookup f = none → vs.lookup f = none
  | _, _, _, .nil, _, _, e => rfl
  | κ, _, _, @RepF.cons _ _ _ _ g v vs d' ds h r, i, f, e => by
    by_cases q : (f == g) = true
    · simp only [List.lookup, q] at e
      cases e
    · have q' : (f == g) = false := by simpa using q
      simp only [List.lookup, q'] at e ⊢
      exact RepF.lookN r e
theorem RepF.len {K : PySem.W.Frag} {B : List Addr} {H : Hp} {κ : Type} {vs : List (κ × V)} {ds : List (κ × D)} (h : RepF K B H κ vs ds) : vs.length = ds.length := by
  match κ, vs, ds, h with
  | _, _, _, .nil => rfl
  | _, _, _, .cons _ r => exact congrArg Nat.succ (RepF.len r)
theorem RepF.fst {K : PySem.W.Frag} {B : List Addr} {H : Hp} {κ : Type} {vs : List (κ × V)} {ds : List (κ × D)} (h : RepF K B H κ vs ds) : vs.map (·.1) = ds.map (·.1) := by
  match κ, vs, ds, h with
  | _, _, _, .nil => rfl
  | _, _, _, .cons _ r => exact congrArg _ (RepF.fst r)

/-- the bag of a law's draws: the cells, how many were taken, what is left of a great cell, a mixed number, the count of draws -/
def BagL (xs : List D) : Prop := ∃ (ns : List Int) (i k m n : Int), xs = [.lst (ns.map D.int), .int i, .int k, .int m, .int n] ∧ ns.length ≤ 63 ∧ 0 ≤ i ∧ 0 ≤ k ∧ 0 ≤ m ∧ m < 2147483579 ∧ 0 ≤ n
def RepO (K : PySem.W.Frag) (B : List Addr) (H : Hp) (a : Addr) : MO → Prop
  | .lst ds => ∃ vs, H a = some (.lst vs) ∧ RepA K B H vs ds
  | .obj C fs => ∃ dx vs, H a = some (.ins (He.ga K C) dx vs) ∧ RepF K B H Str vs fs
  | .dK fs => ∃ vs, H a = some (.dK vs) ∧ RepF K B H Key vs fs
  | .dT fs => ∃ vs, H a = some (.dT vs) ∧ RepF K B H (List Key) vs fs
  | .bag => ∃ ds vs, BagL ds ∧ H a = some (.lst vs) ∧ RepA K B H vs ds
  | .tab q => ∃ ps : Array Value, H a = some (.tbl ps) ∧ TriplesOk ps.toList ∧ ∀ (pos : Pos) (cv : Value), codeAmong pos ps.toList = some cv → ∃ c, cv = .ref c ∧ c ∉ B ∧ H c = some (LamX.CodeO c q)
  | .tup ds => ∃ vs, H a = some (.tup vs) ∧ RepA K B H vs ds
structure RMM (K : PySem.W.Frag) (F : List Addr) (H : Hp) (M : MM) : Prop where
  nd : (keys M).Nodup
  at_ : ∀ a mo, (a, mo) ∈ M → RepO K (ak F M) H a mo
  fd : ∀ f, f ∈ F → f ∉ keys M ∧ ∃ o, H f = some o
theorem RepO.some {K : PySem.W.Frag} {B : List Addr} {H : Hp} {a : Addr} {mo : MO} (h : RepO K B H a mo) : ∃ o, H a = some o := by
  cases mo with
  | lst ds => obtain ⟨vs, e, _⟩ := h; exact ⟨_, e⟩
  | obj C fs => obtain ⟨dx, vs, e, _⟩ := h; exact ⟨_, e⟩
  | dK fs => obtain ⟨vs, e, _⟩ := h; exact ⟨_, e⟩
  | dT fs => obtain ⟨vs, e, _⟩ := h; exact ⟨_, e⟩
  | bag => obtain ⟨ds, vs, _, e, _⟩ := h; exact ⟨_, e⟩
  | tab q => obtain ⟨ps, e, _⟩ := h; exact ⟨_, e⟩
  | tup ds => obtain ⟨vs, e, _⟩ := h; exact ⟨_, e⟩
theorem RepO.step {K : PySem.W.Frag} {H H' : Hp} {B B' : List Addr} (s : Fix H B H' B') {a : Addr} {mo : MO} (e : H' a = H a) (h : RepO K B H a mo) : RepO K B' H' a mo := by
  cases mo with
  | lst ds => obtain ⟨vs, q, r⟩ := h; exact ⟨vs, e.trans q, r.step s⟩
  | obj C fs => obtain ⟨dx, vs, q, r⟩ := h; exact ⟨dx, vs, e.trans q, r.step s⟩
  | dK fs => obtain ⟨vs, q, r⟩ := h; exact ⟨vs, e.trans q, r.step s⟩
  | dT fs => obtain ⟨vs, q, r⟩ := h; exact ⟨vs, e.trans q, r.step s⟩
  | bag => obtain ⟨ds, vs, b, q, r⟩ := h; exact ⟨ds, vs, b, e.trans q, r.step s⟩
  | tab q =>
    obtain ⟨ps, h1, h2, h3⟩ := h
    refine ⟨ps, e.trans h1, h2, fun pos cv hc => ?_⟩
    obtain ⟨c, e1, e2, e3⟩ := h3 pos cv hc
    exact ⟨c, e1, (s _ _ e2 e3).1, (s _ _ e2 e3).2⟩
  | tup ds => obtain ⟨vs, q, r⟩ := h; exact ⟨vs, e.trans q, r.step s⟩
theorem RMM.there {K : PySem.W.Frag} {F : List Addr} {H : Hp} {M : MM} (m : RMM K F H M) {a : Addr} (ha : a ∈ keys M) : ∃ o, H a = some o := by
  obtain ⟨p, hp, e⟩ := List.mem_map.mp ha
  obtain ⟨b, mo⟩ := p
  cases e
  exact (m.at_ _ _ hp).some
/-- a new thing is laid -/
theorem stp_new {H : Hp} {B : List Addr} {p : Addr} {o : HO} (h : H p = none) : Stp H B (upd H p o) B :=
  ⟨fun b u _ e => by rw [upd_ne (ne_of_none e h)]; exact e, fun b hb => .inl hb⟩
theorem RMM.new {K : PySem.W.Frag} {F : List Addr} {H : Hp} {M : MM} {p : Addr} {o : HO} (m : RMM K F H M) (h : H p = none) : RMM K F (upd H p o) M :=
  ⟨m.nd, fun a mo ha => (m.at_ a mo ha).step (stp_new h).fix (by
    obtain ⟨u, e⟩ := (m.at_ a mo ha).some
    rw [upd_ne (ne_of_none e h)]), fun f hf => by
    obtain ⟨h1, u, e⟩ := m.fd f hf
    exact ⟨h1, u, by rw [upd_ne (ne_of_none e h)]; exact e⟩⟩
theorem RMM.notin {K : PySem.W.Frag} {F : List Addr} {H : Hp} {M : MM} {p : Addr} (m : RMM K F H M) (h : H p = none) : p ∉ ak F M := fun z => by
  rcases List.mem_append.mp z with z | z
  · obtain ⟨o, e⟩ := m.there z
    rw [h] at e; cases e
  · obtain ⟨_, o, e⟩ := m.fd p z
    rw [h] at e; cases e

/-! ### slots, states -/
abbrev SD := List (Option D)
structure RSl (K : PySem.W.Frag) (B : List Addr) (H : Hp) (σ : St) (ds : SD) : Prop where
  len : σ.length = ds.length
  at_ : ∀ (i : Nat) d, ds[i]? = some (some d) → ∃ v, σ[i]? = some (some v) ∧ Rep K B H v d
theorem RSl.step {K : PySem.W.Frag} {H H' : Hp} {B B' : List Addr} {σ : St} {ds : SD} (s : Fix H B H' B') (h : RSl K B H σ ds) : RSl K B' H' σ ds :=
  ⟨h.len, fun i d e => by obtain ⟨v, h1, h2⟩ := h.at_ i d e; exact ⟨v, h1, h2.step s⟩⟩
theorem RSl.put {K : PySem.W.Frag} {H : Hp} {B : List Addr} {σ : St} {ds : SD} (h : RSl K B H σ ds) {i : Nat} {v : V} {d : D} (r : Rep K B H v d) : RSl K B H (σ.set i (some v)) (ds.set i (some d)) := by
  refine ⟨by simp [h.len], fun j e hj => ?_⟩
  by_cases q : i = j
  · subst q
    by_cases hl : i < ds.length
    · rw [List.getElem?_set_self hl] at hj
      cases hj
      exact ⟨v, by rw [List.getElem?_set_self (by rw [h.len]; exact hl)], r⟩
    · rw [List.getElem?_eq_none (by simpa using hl)] at hj
      cases hj
  · rw [List.getElem?_set_ne q] at hj
    obtain ⟨w, h1, h2⟩ := h.at_ j e hj
    exact ⟨w, by rw [List.getElem?_set_ne q]; exact h1, h2⟩
/-- an error: its class, its fields -/
abbrev XD := Str → List (Str × D) → MM → Prop
abbrev X0 : XD := fun _ _ _ => False
/-- what is wished of an error -/
def KW (K : PySem.W.Frag) (F : List Addr) (H : Hp) (M : MM) (σ : St) (Z : XD) (W : WX) : Prop := ∀ C fs vs d H' M', Stp H (keys M) H' (keys M') → RMM K F H' M' → H' d = some (.xd vs) → d ∉ ak F M' → RepF K (ak F M') H' Str vs fs → Z C fs M' → W (.ref (He.ga K C)) (some d) σ H'
theorem KW.on {K : PySem.W.Frag} {F : List Addr} {H H1 : Hp} {M M1 : MM} {σ : St} {Z : XD} {W : WX} (k : KW K F H M σ Z W) (s : Stp H (keys M) H1 (keys M1)) : KW K F H1 M1 σ Z W := fun C fs vs d H' M' st mm e n r q => k C fs vs d H' M' (s.trans st) mm e n r q
theorem kw0 {K : PySem.W.Frag} {F : List Addr} {H : Hp} {M : MM} {σ : St} {W : WX} : KW K F H M σ X0 W := fun _ _ _ _ _ _ _ _ _ _ _ q => q.elim
structure Stt (K : PySem.W.Frag) (W : WX) (F : List Addr) (H : Hp) (σ : St) (ds : SD) (M : MM) (Z : XD) : Prop where
  mm : RMM K F H M
  sl : RSl K (ak F M) H σ ds
  kx : KW K F H M σ Z W
theorem Stt.to {K : PySem.W.Frag} {W : WX} {F : List Addr} {H H' : Hp} {σ : St} {ds : SD} {M M' : MM} {Z : XD} (h : Stt K W F H σ ds M Z) (s : Stp H (keys M) H' (keys M')) (m : RMM K F H' M') : Stt K W F H' σ ds M' Z := ⟨m, h.sl.step s.fix, h.kx.on s⟩

/-! ### arguments as they are written -/
def notStar : Expr → Bool
  | .Starred _ _ => false
  | _ => true
def noStars (es : List Expr) : Bool := es.all notStar
theorem star_cons {e : Expr} {es : List Expr} {env : Env} (h : notStar e = true) : starEach (e :: es) env = (false, eval e env) :: starEach es env := by
  cases e <;> first | (simp [notStar] at h; done) | simp [starEach]
theorem star_one {e : Expr} {env : Env} (h : notStar e = true) : starEach [e] env = [(false, eval e env)] := by
  rw [star_cons h]
  simp [starEach]
theorem star_any {es : List Expr} {env : Env} {pos : Pos} (h : noStars es = true) : (backTo pos (starEach es env)).any (·.1) = false := by
  induction es with
  | nil => simp [starEach, backTo]
  | cons e r ih =>
    have h := Bool.and_eq_true_iff.mp (show (notStar e && r.all notStar) = true from h)
    rw [star_cons h.1]
    have := ih h.2
    unfold backTo at this ⊢
    rw [List.map_cons, List.any_cons, this]
    rfl
theorem star_all {es : List Expr} {env : Env} {pos : Pos} (h : noStars es = true) : (backTo pos (starEach es env)).all (fun x => !x.1) = true := by
  have := star_any (env := env) (pos := pos) h
  rw [List.any_eq_false] at this
  rw [List.all_eq_true]
  intro x hx
  have := this x hx
  cases q : x.1
  · rfl
  · rw [q] at this; exact absurd rfl this
theorem star_some {es : List Expr} {env : Env} {pos : Pos} (h : es.any (fun e => !notStar e) = true) : (backTo pos (starEach es env)).any (·.1) = true := by
  induction es with
  | nil => cases h
  | cons e r ih =>
    by_cases he : notStar e = true
    · rw [star_cons he]
      have h2 : r.any (fun e => !notStar e) = true := by
        rw [List.any_cons, he] at h
        exact h
      have := ih h2
      unfold backTo at this ⊢
      rw [List.map_cons, List.any_cons, this]
      simp
    · cases e <;> first | (exact absurd rfl he) | (simp [starEach, backTo])
theorem kw_each {kws : List Keyword} {env : Env} : keywordEach kws env = kws.map fun k => (k.arg, eval k.value env) := by
  induction kws with
  | nil => simp [keywordEach]
  | cons k r ih => obtain ⟨n, v, p⟩ := k; simp [keywordEach, ih]
def kwsOk (kws : List Keyword) (ks : List Str) : Bool := kws.map (·.arg) == ks.map some
theorem kw_names {kws : List Keyword} {ks : List Str} {env : Env} {pos : Pos} (h : kwsOk kws ks = true) : (backToKw pos (keywordEach kws env)).map (·.1) = ks.map some := by
  rw [kw_each]
  unfold backToKw
  rw [List.map_map, List.map_map]
  have h := eq_of_beq (show (kws.map (·.arg) == ks.map some) = true from h)
  rw [← h]
  rfl
theorem kw_all {kws : List Keyword} {ks : List Str} {env : Env} {pos : Pos} (h : kwsOk kws ks = true) : (backToKw pos (keywordEach kws env)).all (·.1.isSome) = true := by
  have e := kw_names (env := env) (pos := pos) h
  rw [List.all_eq_true]
  intro x hx
  have : x.1 ∈ (backToKw pos (keywordEach kws env)).map (·.1) := List.mem_map.mpr ⟨x, hx, rfl⟩
  rw [e] at this
  obtain ⟨k, _, e⟩ := List.mem_map.mp this
  rw [← e]
  rfl
theorem kw_ks {kws : List Keyword} {ks : List Str} {env : Env} {pos : Pos} (h : kwsOk kws ks = true) : (backToKw pos (keywordEach kws env)).filterMap (·.1) = ks := by
  have e := kw_names (env := env) (pos := pos) h
  have : ∀ (l : List (Option Str × Sem Value)) (ks : List Str), l.map (·.1) = ks.map some → l.filterMap (·.1) = ks := by
    intro l
    induction l with
    | nil => intro ks h; cases ks with
      | nil => rfl
      | cons _ _ => cases h
    | cons x r ih => intro ks h; cases ks with
      | nil => cases h
      | cons k ks =>
        rw [List.map_cons, List.map_cons] at h
        injection h with h1 h2
        rw [List.filterMap_cons, h1]
        show k :: _ = k :: ks
        rw [ih ks h2]
  exact this _ _ e
theorem kw_none {kws : List Keyword} {ks : List Str} {env : Env} {pos : Pos} (h : kwsOk kws ks = true) : (backToKw pos (keywordEach kws env)).any (·.1.isNone) = false := by
  have := kw_all (env := env) (pos := pos) h
  rw [List.all_eq_true] at this
  rw [List.any_eq_false]
  intro x hx
  have := this x hx
  cases q : x.1
  · rw [q] at this; cases this
  · simp
def plainTest : Expr → Bool
  | .UnaryOp .Not _ _ => false | .BoolOp _ _ _ => false | .IfExp _ _ _ _ => false | .Compare _ _ _ _ => false
  | _ => true
theorem is_true {e : Expr} {env : Env} (h : plainTest e = true) (whole : Sem Value) : isTrue e env whole = (do let v ← whole; standAt e.pos; holding [v] (truthy v)) := by
  cases e with
  | UnaryOp op x p => cases op <;> first | (cases h; done) | simp [PySem.isTrue]
  | _ => first | (cases h; done) | simp [PySem.isTrue]

/-! ### what is reckoned first -/
def letK {α : Type} (a : α) (k : α → Prop) : Prop := k a
theorem letK_congr {α : Type} {a a' : α} {k : α → Prop} (h : a = a') : letK a k = letK a' k := by rw [h]
@[simp ↓] theorem letK_eq {α : Type} (a : α) (k : α → Prop) : letK a k = k a := rfl
def optK {α : Type} (o : Option α) (k : α → Prop) : Prop := match o with | some a => k a | none => False
theorem optK_congr {α : Type} {a a' : Option α} {k : α → Prop} (h : a = a') : optK a k = optK a' k := by rw [h]
@[simp] theorem optK_some {α : Type} (a : α) (k : α → Prop) : optK (some a) k = k a := rfl
@[simp] theorem optK_none {α : Type} (k : α → Prop) : optK none k = False := rfl
def slotK (o : Option (Option D)) (k : D → Prop) : Prop := match o with | some (some a) => k a | _ => False
theorem slotK_congr {a a' : Option (Option D)} {k : D → Prop} (h : a = a') : slotK a k = slotK a' k := by rw [h]
@[simp] theorem slotK_some (a : D) (k : D → Prop) : slotK (some (some a)) k = k a := rfl
def lstK (o : Option MO) (k : List D → Prop) : Prop := match o with | some (.lst xs) => k xs | _ => False
theorem lstK_congr {a a' : Option MO} {k : List D → Prop} (h : a = a') : lstK a k = lstK a' k := by rw [h]
@[simp] theorem lstK_some (a : List D) (k : List D → Prop) : lstK (some (.lst a)) k = k a := rfl

/-! ### judgements -/
abbrev QD := D → MM → Prop
abbrev TD := SD → MM → XD → QD → Prop
abbrev TTD := SD → MM → XD → (Bool → MM → Prop) → Prop
abbrev TAD := SD → MM → XD → (List D → MM → Prop) → Prop
structure PD (X : Cx) (e : Expr) (t : TD) : Prop where
  run : ∀ (W : WX), Takes X W → ∀ (F : List Addr) (pins : List (Addr × Obj)) (s : Shared) (σ : St) (H : Hp) (ds : SD) (M : MM) (Z : XD) (Q : QD), Inv X pins σ H s → Stt X.K W F H σ ds M Z → t ds M Z Q →
  wpAny (model X.prog X.w) X.A (eval e X.env) (fun u s' => ∃ v H' d M', Inv X pins σ H' s' ∧ RelV v u ∧ Stp H (keys M) H' (keys M') ∧ RMM X.K F H' M' ∧ Rep X.K (ak F M') H' v d ∧ Q d M') X.xe s
def EQ (K : PySem.W.Frag) (F : List Addr) (H : Hp) (M : MM) (Q : QD) : VK := fun v H' => ∃ d M', Stp H (keys M) H' (keys M') ∧ RMM K F H' M' ∧ Rep K (ak F M') H' v d ∧ Q d M'
def KQ (K : PySem.W.Frag) (F : List Addr) (H : Hp) (M : MM) (Q : QD) (QV : VK) : Prop := ∀ v H' d M', Stp H (keys M) H' (keys M') → RMM K F H' M' → Rep K (ak F M') H' v d → Q d M' → QV v H'
theorem KQ.eq {K : PySem.W.Frag} {F : List Addr} {H : Hp} {M : MM} {Q : QD} : KQ K F H M Q (EQ K F H M Q) := fun _ _ d M' st mm rp q => ⟨d, M', st, mm, rp, q⟩
theorem KQ.on {K : PySem.W.Frag} {F : List Addr} {H H1 : Hp} {M M1 : MM} {Q : QD} {QV : VK} (k : KQ K F H M Q QV) (s : Stp H (keys M) H1 (keys M1)) : KQ K F H1 M1 Q QV := fun v H' d M' st mm rp q => k v H' d M' (s.trans st) mm rp q
/-- the heap as it is -/
theorem KQ.at {K : PySem.W.Frag} {F : List Addr} {H : Hp} {M : MM} {Q : QD} {QV : VK} (k : KQ K F H M Q QV) (mm : RMM K F H M) {v : V} {d : D} (r : Rep K (ak F M) H v d) (q : Q d M) : QV v H := k v H d M (.refl _ _) mm r q
theorem RMM.newL {K : PySem.W.Frag} {F : List Addr} {H : Hp} {M : MM} {p : Addr} {vs : List V} {xs : List D} (m : RMM K F H M) (h : H p = none) (r : RepA K (ak F M) H vs xs) : Rep K (ak F M) (upd H p (.lst vs)) (.ref p) (.lst xs) := .lst ⟨m.notin h, upd_same⟩ (r.step (stp_new h).fix)
theorem RMM.newT {K : PySem.W.Frag} {F : List Addr} {H : Hp} {M : MM} {p : Addr} {vs : List V} {xs : List D} (m : RMM K F H M) (h : H p = none) (r : RepA K (ak F M) H vs xs) : Rep K (ak F M) (upd H p (.tup vs)) (.ref p) (.tup xs) := .tup (.inl ⟨m.notin h, upd_same⟩) (r.step (stp_new h).fix)
/-- a new list, a new tuple -/
theorem KQ.newL {K : PySem.W.Frag} {F : List Addr} {H : Hp} {M : MM} {Q : QD} {QV : VK} (k : KQ K F H M Q QV) (mm : RMM K F H M) {vs : List V} {xs : List D} (r : RepA K (ak F M) H vs xs) (q : Q (.lst xs) M) : ∀ p, H p = none → QV (.ref p) (upd H p (.lst vs)) := fun p hp => k _ _ _ M (stp_new hp) (mm.new hp) (mm.newL hp r) q
theorem KQ.newT {K : PySem.W.Frag} {F : List Addr} {H : Hp} {M : MM} {Q : QD} {QV : VK} (k : KQ K F H M Q QV) (mm : RMM K F H M) {vs : List V} {xs : List D} (r : RepA K (ak F M) H vs xs) (q : Q (.tup xs) M) : ∀ p, H p = none → QV (.ref p) (upd H p (.tup vs)) := fun p hp => k _ _ _ M (stp_new hp) (mm.new hp) (mm.newT hp r) q
def teOf (K : PySem.W.Frag) (W : WX) (t : TD) : TE := fun σ H Q => ∃ F ds M Z QD, Stt K W F H σ ds M Z ∧ t ds M Z QD ∧ KQ K F H M QD Q
theorem PD.pe {X : Cx} {W : WX} {e : Expr} {t : TD} (h : PD X e t) (tk : Takes X W) : PE X e (teOf X.K W t) := by
  refine ⟨fun pins s σ H Q I hw => ?_⟩
  obtain ⟨F, ds, M, Z, QD, hs, ht, hq⟩ := hw
  refine thn (h.run W tk F pins s σ H ds M Z QD I hs ht) fun u s' hh => ?_
  obtain ⟨v, H', d, M', I', r, st, mm, rp, q⟩ := hh
  exact ⟨v, H', I', r, hq v H' d M' st mm rp q⟩
theorem PD.of {X : Cx} {e : Expr} {te : WX → TE} {t : TD} (h : ∀ W, Takes X W → PE X e (te W)) (hi : ∀ W F σ H ds M Z Q, Stt X.K W F H σ ds M Z → t ds M Z Q → te W σ H (EQ X.K F H M Q)) : PD X e t := by
  refine ⟨fun W tk F pins s σ H ds M Z Q I hs ht => ?_⟩
  refine thn ((h W tk).run pins s σ H _ I (hi W F σ H ds M Z Q hs ht)) fun u s' hh => ?_
  obtain ⟨v, H', I', r, d, M', st, mm, rp, q⟩ := hh
  exact ⟨v, H', d, M', I', r, st, mm, rp, q⟩
structure PTD (X : Cx) (e : Expr) (t : TTD) : Prop where
  run : ∀ (W : WX), Takes X W → ∀ (F : List Addr) (pins : List (Addr × Obj)) (s : Shared) (σ : St) (H : Hp) (ds : SD) (M : MM) (Z : XD) (Q : Bool → MM → Prop), Inv X pins σ H s → Stt X.K W F H σ ds M Z → t ds M Z Q →
  wpAny (model X.prog X.w) X.A (isTrue e X.env (eval e X.env)) (fun b s' => ∃ H' M', Inv X pins σ H' s' ∧ Stp H (keys M) H' (keys M') ∧ RMM X.K F H' M' ∧ Q b M') X.xe s
def ETQ (K : PySem.W.Frag) (F : List Addr) (H : Hp) (M : MM) (Q : Bool → MM → Prop) : Bool → Hp → Prop := fun b H' => ∃ M', Stp H (keys M) H' (keys M') ∧ RMM K F H' M' ∧ Q b M'
def ttOf (K : PySem.W.Frag) (W : WX) (t : TTD) : TT := fun σ H Q => ∃ F ds M Z QD, Stt K W F H σ ds M Z ∧ t ds M Z QD ∧ ∀ b H' M', Stp H (keys M) H' (keys M') → RMM K F H' M' → QD b M' → Q b H'
theorem PTD.pt {X : Cx} {W : WX} {e : Expr} {t : TTD} (h : PTD X e t) (tk : Takes X W) : PT X e (ttOf X.K W t) := by
  refine ⟨fun pins s σ H Q I hw => ?_⟩
  obtain ⟨F, ds, M, Z, QD, hs, ht, hq⟩ := hw
  refine thn (h.run W tk F pins s σ H ds M Z QD I hs ht) fun u s' hh => ?_
  obtain ⟨H', M', I', st, mm, q⟩ := hh
  exact ⟨H', I', hq u H' M' st mm q⟩
theorem PTD.of {X : Cx} {e : Expr} {tt : WX → TT} {t : TTD} (h : ∀ W, Takes X W → PT X e (tt W)) (hi : ∀ W F σ H ds M Z Q, Stt X.K W F H σ ds M Z → t ds M Z Q → tt W σ H (ETQ X.K F H M Q)) : PTD X e t := by
  refine ⟨fun W tk F pins s σ H ds M Z Q I hs ht => ?_⟩
  refine thn ((h W tk).run pins s σ H _ I (hi W F σ H ds M Z Q hs ht)) fun u s' hh => ?_
  obtain ⟨H', I', M', st, mm, q⟩ := hh
  exact ⟨H', M', I', st, mm, q⟩
/-- and, or of tests, whatever the whole is -/
structure PWD (X : Cx) (e : Expr) (t : TTD) : Prop where
  run : ∀ (W : WX), Takes X W → ∀ (whole : Sem Value) (F : List Addr) (pins : List (Addr × Obj)) (s : Shared) (σ : St) (H : Hp) (ds : SD) (M : MM) (Z : XD) (Q : Bool → MM → Prop), Inv X pins σ H s → Stt X.K W F H σ ds M Z → t ds M Z Q →
  wpAny (model X.prog X.w) X.A (isTrue e X.env whole) (fun b s' => ∃ H' M', Inv X pins σ H' s' ∧ Stp H (keys M) H' (keys M') ∧ RMM X.K F H' M' ∧ Q b M') X.xe s
theorem PWD.pt {X : Cx} {e : Expr} {t : TTD} (h : PWD X e t) : PTD X e t := ⟨fun W tk => h.run W tk _⟩
theorem PWD.pw {X : Cx} {W : WX} {e : Expr} {t : TTD} (h : PWD X e t) (tk : Takes X W) : PW X e (ttOf X.K W t) := by
  refine ⟨fun wh pins s σ H Q I hw => ?_⟩
  obtain ⟨F, ds, M, Z, QD, hs, ht, hq⟩ := hw
  refine thn (h.run W tk wh F pins s σ H ds M Z QD I hs ht) fun u s' hh => ?_
  obtain ⟨H', M', I', st, mm, q⟩ := hh
  exact ⟨H', I', hq u H' M' st mm q⟩
theorem PWD.of {X : Cx} {e : Expr} {tt : WX → TT} {t : TTD} (h : ∀ W, Takes X W → PW X e (tt W)) (hi : ∀ W F σ H ds M Z Q, Stt X.K W F H σ ds M Z → t ds M Z Q → tt W σ H (ETQ X.K F H M Q)) : PWD X e t := by
  refine ⟨fun W tk wh F pins s σ H ds M Z Q I hs ht => ?_⟩
  refine thn ((h W tk).run wh pins s σ H _ I (hi W F σ H ds M Z Q hs ht)) fun u s' hh => ?_
  obtain ⟨H', I', M', st, mm, q⟩ := hh
  exact ⟨H', M', I', st, mm, q⟩
/-- arguments -/
structure PAD (X : Cx) (es : List Expr) (t : TAD) : Prop where
  run : ∀ (W : WX), Takes X W → ∀ (pos : Pos) (F : List Addr) (pins : List (Addr × Obj)) (s : Shared) (σ : St) (H : Hp) (ds : SD) (M : MM) (Z : XD) (Q : List D → MM → Prop), Inv X pins σ H s → Stt X.K W F H σ ds M Z → t ds M Z Q →
  wpAny (model X.prog X.w) X.A (spliced (backTo pos (starEach es X.env))) (fun us s' => ∃ vs H' xs M', Inv X pins σ H' s' ∧ Vals vs us ∧ Stp H (keys M) H' (keys M') ∧ RMM X.K F H' M' ∧ RepA X.K (ak F M') H' vs xs ∧ Q xs M') X.xe s
def taOf (K : PySem.W.Frag) (W : WX) (t : TAD) : TA := fun σ H Q => ∃ F ds M Z QD, Stt K W F H σ ds M Z ∧ t ds M Z QD ∧ ∀ vs H' xs M', Stp H (keys M) H' (keys M') → RMM K F H' M' → RepA K (ak F M') H' vs xs → QD xs M' → Q vs H'
theorem PAD.pa {X : Cx} {W : WX} {es : List Expr} {t : TAD} (h : PAD X es t) (tk : Takes X W) : PA X es (taOf X.K W t) := by
  refine ⟨fun pos pins s σ H Q I hw => ?_⟩
  obtain ⟨F, ds, M, Z, QD, hs, ht, hq⟩ := hw
  refine thn (h.run W tk pos F pins s σ H ds M Z QD I hs ht) fun us s' hh => ?_
  obtain ⟨vs, H', xs, M', I', r, st, mm, rp, q⟩ := hh
  exact ⟨vs, H', I', r, hq vs H' xs M' st mm rp q⟩
structure PKD (X : Cx) (ks : List Keyword) (t : TAD) : Prop where
  run : ∀ (W : WX), Takes X W → ∀ (pos : Pos) (F : List Addr) (pins : List (Addr × Obj)) (s : Shared) (σ : St) (H : Hp) (ds : SD) (M : MM) (Z : XD) (Q : List D → MM → Prop), Inv X pins σ H s → Stt X.K W F H σ ds M Z → t ds M Z Q →
  wpAny (model X.prog X.w) X.A (evalAll ((backToKw pos (keywordEach ks X.env)).map (·.2))) (fun us s' => ∃ vs H' xs M', Inv X pins σ H' s' ∧ Vals vs us ∧ Stp H (keys M) H' (keys M') ∧ RMM X.K F H' M' ∧ RepA X.K (ak F M') H' vs xs ∧ Q xs M') X.xe s
def dNil : TAD := fun _ M _ Q => Q [] M
@[simp ↓] theorem dNil_eq : ∀ w0 M w2 Q, dNil w0 M w2 Q = (Q [] M) := fun _ _ _ _ => rfl
def dCons (t : TD) (r : TAD) : TAD := fun ds M Z Q => t ds M Z fun x M1 => r ds M1 Z fun xs M2 => Q (x :: xs) M2
@[simp ↓] theorem dCons_eq (t : TD) (r : TAD) : ∀ ds M Z Q, dCons t r ds M Z Q = (t ds M Z fun x M1 => r ds M1 Z fun xs M2 => Q (x :: xs) M2) := fun _ _ _ _ => rfl
section
variable {X : Cx}
theorem ad_nil : PAD X [] dNil := ⟨fun W tk pos F pins s σ H ds M Z Q I hs hq =>
  thn (pa_nil.run pos pins s σ H (fun vs H' => vs = [] ∧ H' = H) I ⟨rfl, rfl⟩) fun us s' ⟨vs, H', I', r, e1, e2⟩ => by
    subst e1 e2
    exact ⟨[], _, [], M, I', r, .refl _ _, hs.mm, .nil, hq⟩⟩
theorem ad_cons {e : Expr} {es : List Expr} {t : TD} {r : TAD} (h : PD X e t) (hr : PAD X es r) (he : notStar e = true := by rfl) : PAD X (e :: es) (dCons t r) := by
  refine ⟨fun W tk pos F pins s σ H ds M Z Q I hs ht => ?_⟩
  rw [star_cons he]
  show wpAny _ _ (spliced ((false, eval e X.env) :: backTo pos (starEach es X.env))) _ _ s
  refine Calls.spliced_cons (thn (h.run W tk F pins s σ H ds M Z _ I hs ht) fun u s1 ⟨v, H1, d, M1, I1, r1, st, mm, rp, q⟩ => ?_)
  refine thn (hr.run W tk pos F pins s1 σ H1 ds M1 Z _ I1 (hs.to st mm) q) fun us s2 ⟨vs, H2, xs, M2, I2, r2, st2, mm2, rp2, q2⟩ => ?_
  exact ⟨v :: vs, H2, d :: xs, M2, I2, .cons r1 r2, st.trans st2, mm2, .cons (rp.step st2.fix) rp2, q2⟩
end
end L2.Dl

namespace L2.Dl
open PySem PySem.Spec PyProof.Rows
section
variable {X : Cx} {a b c : Expr} {ta tb tc : TD} {pos : Pos}

/-! ### names, constants -/
def dVar (i : Nat) : TD := fun ds M Z Q => slotK ds[i]? fun d => Q d M
@[simp ↓] theorem dVar_eq (i : Nat) : ∀ ds M Z Q, dVar i ds M Z Q = (slotK ds[i]? fun d => Q d M) := fun _ _ _ _ => rfl
def dC (d : D) : TD := fun _ M _ Q => Q d M
@[simp ↓] theorem dC_eq (d : D) : ∀ w0 M w2 Q, dC d w0 M w2 Q = (Q d M) := fun _ _ _ _ => rfl
theorem d_v (i : Nat) {x : Str} {pos : Pos} (hN : X.N[i]? = some x := by rfl) (hv : Vis X.env.scope x := by first | exact Or.inl rfl | exact Or.inr (Or.inl rfl) | exact Or.inr (Or.inr rfl)) (hd : (x == ("__debug__" : Str)) = false := by decide)
    (hcd : (x == ("__classdict__" : Str)) = false := by decide) : PD X (.Name x pos) (dVar i) := by
  refine PD.of (fun W tk => pe_var hN hv hd hcd) fun W F σ H ds M Z Q hs ht => ?_
  unfold dVar slotK at ht
  split at ht
  · rename_i d e
    obtain ⟨v, h1, h2⟩ := hs.sl.at_ i d e
    exact ⟨v, h1, KQ.eq.at hs.mm h2 ht⟩
  · exact ht.elim
theorem d_const {e : Expr} {v : V} {d : D} (h : PE X e (tC v)) (r : ∀ B H, Rep X.K B H v d) : PD X e (dC d) := PD.of (fun W tk => h) fun W F σ H ds M Z Q hs ht => KQ.eq.at hs.mm (r _ _) ht
theorem d_int {i j pos} : PD X (.Constant (.int i) j pos) (dC (.int i)) := d_const pe_int fun _ _ => .int i
theorem d_bl {b j pos} : PD X (.Constant (.bool b) j pos) (dC (.bl b)) := d_const pe_bl fun _ _ => .bl b
theorem d_non {j pos} : PD X (.Constant .none j pos) (dC .non) := d_const pe_non fun _ _ => .non
theorem d_str {x j pos} (h : PyData.strOk x = true := by decide +kernel) : PD X (.Constant (.str x) j pos) (dC (.str x)) := d_const pe_str fun _ _ => .str x h
/-- a module's int or text -/
theorem d_globI {x : Str} {i : Int} {pos : Pos} (hm : ∃ t, X.mg x = some (.int i t)) (hg : Gl X x := by rfl) (hd : (x == ("__debug__" : Str)) = false := by decide) : PD X (.Name x pos) (dC (.int i)) := by
  obtain ⟨t, hm⟩ := hm
  exact d_const (v := .int i) (pe_glob hg hm ⟨_, rfl⟩ hd) fun _ _ => .int i
theorem d_globS {x : Str} {z : Str} {pos : Pos} (hm : ∃ t, X.mg x = some (.str z t)) (h : PyData.strOk z = true := by decide +kernel) (hg : Gl X x := by rfl) (hd : (x == ("__debug__" : Str)) = false := by decide) : PD X (.Name x pos) (dC (.str z)) := by
  obtain ⟨t, hm⟩ := hm
  exact d_const (v := .str z) (pe_glob hg hm ⟨_, rfl⟩ hd) fun _ _ => .str z h
/-- a class, a def of the module as a value -/
theorem d_globR {x : Str} {pos : Pos} (hm : X.mg x = some (.ref (He.ga X.K x))) (hg : Gl X x := by rfl) (hd : (x == ("__debug__" : Str)) = false := by decide) : PD X (.Name x pos) (dC (.glo x)) := d_const (v := .ref (He.ga X.K x)) (pe_glob hg hm rfl hd) fun _ _ => .glo x
/-- a built-in type's name -/
theorem d_ty {x : Str} {n : String} {pos : Pos} (hm : X.mg x = none) (hv : bootBuiltins x = some (.type n)) (hg : Gl X x := by rfl) (hn : x ≠ "__name__" := by decide) (hd : (x == ("__debug__" : Str)) = false := by decide) : PD X (.Name x pos) (dC (.ty n)) := d_const (v := .ty n) (pe_bltn hg hm hv rfl hn hd) fun _ _ => .ty n

/-! ### operations by data -/
abbrev R2D := D → D → MM → QD → Prop
def OpD (X : Cx) (f : Value → Value → Sem Value) (r : R2D) : Prop := ∃ rv, OpR X f rv ∧ ∀ F H M x y dx dy Q QV, RMM X.K F H M → Rep X.K (ak F M) H x dx → Rep X.K (ak F M) H y dy → r dx dy M Q → KQ X.K F H M Q QV → rv x y H QV
def dOp (r : R2D) (ta tb : TD) : TD := fun ds M Z Q => ta ds M Z fun x M1 => tb ds M1 Z fun y M2 => r x y M2 Q
@[simp ↓] theorem dOp_eq (r : R2D) (ta tb : TD) : ∀ ds M Z Q, dOp r ta tb ds M Z Q = (ta ds M Z fun x M1 => tb ds M1 Z fun y M2 => r x y M2 Q) := fun _ _ _ _ => rfl
theorem two {W : WX} {F : List Addr} {σ : L2.St} {H : Hp} {ds : SD} {M : MM} {Z : XD} {Q : QD} {QV : VK} {r : R2D} {rv : V → V → Hp → VK → Prop} (hr : ∀ F H M x y dx dy Q QV, RMM X.K F H M → Rep X.K (ak F M) H x dx → Rep X.K (ak F M) H y dy → r dx dy M Q → KQ X.K F H M Q QV → rv x y H QV)
    (hs : Stt X.K W F H σ ds M Z) (ht : dOp r ta tb ds M Z Q) (k : KQ X.K F H M Q QV) : tOp rv (teOf X.K W ta) (teOf X.K W tb) σ H QV := by
  refine ⟨F, ds, M, _, _, hs, ht, fun v H1 d M1 st mm rp q => ?_⟩
  refine ⟨F, ds, M1, _, _, hs.to st mm, q, fun w H2 e M2 st2 mm2 rp2 q2 => ?_⟩
  exact hr F H2 M2 v w d e Q QV mm2 (rp.step st2.fix) rp2 q2 (k.on (st.trans st2))
theorem d_op {op : Operator} {r : R2D} (ho : OpD X (binaryOp op) r) (ha : PD X a ta) (hb : PD X b tb) : PD X (.BinOp a op b pos) (dOp r ta tb) := by
  obtain ⟨rv, o, hr⟩ := ho
  exact PD.of (fun W tk => pe_op o (ha.pe tk) (hb.pe tk)) fun W F σ H ds M Z Q hs ht => two hr hs ht KQ.eq
theorem d_cmp {op : CmpOp} {r : R2D} (ho : OpD X (compareOp op) r) (ha : PD X a ta) (hb : PD X b tb) (hm : behindInMarks op b = false) : PD X (.Compare a [op] [b] pos) (dOp r ta tb) := by
  obtain ⟨rv, o, hr⟩ := ho
  exact PD.of (fun W tk => pe_cmpR o (ha.pe tk) (hb.pe tk) hm) fun W F σ H ds M Z Q hs ht => two hr hs ht KQ.eq
/-- a bool as a test -/
def dTest (t : TD) : TTD := fun ds M Z Q => t ds M Z fun x M1 => match x with | .bl k => Q k M1 | _ => False
@[simp ↓] theorem dTest_eq (t : TD) : ∀ ds M Z Q, dTest t ds M Z Q = (t ds M Z fun x M1 => match x with | .bl k => Q k M1 | _ => False) := fun _ _ _ _ => rfl
theorem d_tcmp {op : CmpOp} {r : R2D} (ho : OpD X (compareOp op) r) (ha : PD X a ta) (hb : PD X b tb) (hm : behindInMarks op b = false) : PTD X (.Compare a [op] [b] pos) (dTest (dOp r ta tb)) := by
  obtain ⟨rv, o, hr⟩ := ho
  refine PTD.of (fun W tk => pt_cmpR o (ha.pe tk) (hb.pe tk) hm) fun W F σ H ds M Z Q hs ht => ?_
  refine two hr hs ht fun v H' d M' st mm rp q => ?_
  cases d with
  | bl k => cases rp; exact ⟨k, rfl, M', st, mm, q⟩
  | _ => exact (show False from q).elim
theorem d_tval {e : Expr} {t : TD} (h : PD X e t) (he : plainTest e = true := by rfl) : PTD X e (dTest t) := by
  refine PTD.of (fun W tk => pt_val (h.pe tk) (is_true he)) fun W F σ H ds M Z Q hs ht => ?_
  refine ⟨F, ds, M, _, _, hs, ht, fun v H' d M' st mm rp q => ?_⟩
  cases d with
  | bl k => cases rp; exact ⟨k, rfl, M', st, mm, q⟩
  | _ => exact (show False from q).elim
/-- a chain of two comparisons -/
def dChain (r r' : R2D) (ta tb tc : TD) : TD := fun ds M Z Q => ta ds M Z fun x M1 => tb ds M1 Z fun y M2 => r x y M2 fun z M3 => match z with
  | .bl k => if k = true then tc ds M3 Z fun w M4 => r' y w M4 Q else Q (.bl false) M3
  | _ => False
@[simp ↓] theorem dChain_eq (r r' : R2D) (ta tb tc : TD) : ∀ ds M Z Q, dChain r r' ta tb tc ds M Z Q = (ta ds M Z fun x M1 => tb ds M1 Z fun y M2 => r x y M2 fun z M3 => match z with
  | .bl k => if k = true then tc ds M3 Z fun w M4 => r' y w M4 Q else Q (.bl false) M3
  | _ => False) := fun _ _ _ _ => rfl
theorem chain_ok {W : WX} {F : List Addr} {σ : L2.St} {H : Hp} {ds : SD} {M : MM} {Z : XD} {Q : QD} {QV : VK} {r r' : R2D} {rv rv' : V → V → Hp → VK → Prop} (hr : ∀ F H M x y dx dy Q QV, RMM X.K F H M → Rep X.K (ak F M) H x dx → Rep X.K (ak F M) H y dy → r dx dy M Q → KQ X.K F H M Q QV → rv x y H QV)
    (hr' : ∀ F H M x y dx dy Q QV, RMM X.K F H M → Rep X.K (ak F M) H x dx → Rep X.K (ak F M) H y dy → r' dx dy M Q → KQ X.K F H M Q QV → rv' x y H QV)
    (hs : Stt X.K W F H σ ds M Z) (ht : dChain r r' ta tb tc ds M Z Q) (k : KQ X.K F H M Q QV) : tChain rv rv' (teOf X.K W ta) (teOf X.K W tb) (teOf X.K W tc) σ H QV := by
  refine ⟨F, ds, M, _, _, hs, ht, fun v H1 d M1 st mm rp q => ?_⟩
  refine ⟨F, ds, M1, _, _, hs.to st mm, q, fun w H2 e M2 st2 mm2 rp2 q2 => ?_⟩
  refine hr F H2 M2 v w d e _ _ mm2 (rp.step st2.fix) rp2 q2 fun z H3 f M3 st3 mm3 rp3 q3 => ?_
  cases f with
  | bl kk =>
    cases rp3
    refine ⟨kk, rfl, ?_⟩
    cases kk with
    | true =>
      refine iteT ⟨F, ds, M3, _, _, hs.to ((st.trans st2).trans st3) mm3, q3, fun u H4 g M4 st4 mm4 rp4 q4 => ?_⟩
      exact hr' F H4 M4 w u e g Q QV mm4 ((rp2.step st3.fix).step st4.fix) rp4 q4 (k.on (((st.trans st2).trans st3).trans st4))
    | false => exact iteF ((k.on ((st.trans st2).trans st3)).at mm3 (.bl false) q3)
  | _ => exact (show False from q3).elim
theorem d_chain {op op' : CmpOp} {r r' : R2D} (ho : OpD X (compareOp op) r) (ho' : OpD X (compareOp op') r') (ha : PD X a ta) (hb : PD X b tb) (hc : PD X c tc)
    (hm : lastMarks [op, op'] [b, c] = false := by with_unfolding_all rfl) : PD X (.Compare a [op, op'] [b, c] pos) (dChain r r' ta tb tc) := by
  obtain ⟨rv, o, hr⟩ := ho
  obtain ⟨rv', o', hr'⟩ := ho'
  exact PD.of (fun W tk => pe_chain o o' (ha.pe tk) (hb.pe tk) (hc.pe tk) hm) fun W F σ H ds M Z Q hs ht => chain_ok hr hr' hs ht KQ.eq
theorem d_tchain {op op' : CmpOp} {r r' : R2D} (ho : OpD X (compareOp op) r) (ho' : OpD X (compareOp op') r') (ha : PD X a ta) (hb : PD X b tb) (hc : PD X c tc)
    (hm : lastMarks [op, op'] [b, c] = false := by with_unfolding_all rfl) : PTD X (.Compare a [op, op'] [b, c] pos) (dTest (dChain r r' ta tb tc)) := by
  obtain ⟨rv, o, hr⟩ := ho
  obtain ⟨rv', o', hr'⟩ := ho'
  refine PTD.of (fun W tk => pt_chain o o' (ha.pe tk) (hb.pe tk) (hc.pe tk) hm) fun W F σ H ds M Z Q hs ht => ?_
  refine chain_ok hr hr' hs ht fun v H' d M' st mm rp q => ?_
  cases d with
  | bl k => cases rp; exact ⟨k, rfl, M', st, mm, q⟩
  | _ => exact (show False from q).elim

/-! ### and, or, not, if -/
variable {tA tB : TTD} {rest : List Expr}
def dAnd (t u : TTD) : TTD := fun ds M Z Q => t ds M Z fun c M1 => if c = true then u ds M1 Z Q else Q false M1
@[simp ↓] theorem dAnd_eq (t u : TTD) : ∀ ds M Z Q, dAnd t u ds M Z Q = (t ds M Z fun c M1 => if c = true then u ds M1 Z Q else Q false M1) := fun _ _ _ _ => rfl
def dOr (t u : TTD) : TTD := fun ds M Z Q => t ds M Z fun c M1 => if c = true then Q true M1 else u ds M1 Z Q
@[simp ↓] theorem dOr_eq (t u : TTD) : ∀ ds M Z Q, dOr t u ds M Z Q = (t ds M Z fun c M1 => if c = true then Q true M1 else u ds M1 Z Q) := fun _ _ _ _ => rfl
def dNot (t : TTD) : TTD := fun ds M Z Q => t ds M Z fun c M1 => Q (!c) M1
@[simp ↓] theorem dNot_eq (t : TTD) : ∀ ds M Z Q, dNot t ds M Z Q = (t ds M Z fun c M1 => Q (!c) M1) := fun _ _ _ _ => rfl
theorem w_and1 (ha : PTD X a tA) : PWD X (.BoolOp .And [a] pos) tA := PWD.of (fun W tk => pw_and1 (ha.pt tk)) fun W F σ H ds M Z Q hs ht => ⟨F, ds, M, _, _, hs, ht, fun b H' M' st mm q => ⟨M', st, mm, q⟩⟩
theorem w_or1 (ha : PTD X a tA) : PWD X (.BoolOp .Or [a] pos) tA := PWD.of (fun W tk => pw_or1 (ha.pt tk)) fun W F σ H ds M Z Q hs ht => ⟨F, ds, M, _, _, hs, ht, fun b H' M' st mm q => ⟨M', st, mm, q⟩⟩
theorem w_and (ha : PTD X a tA) (hb : PWD X (.BoolOp .And (b :: rest) pos) tB) : PWD X (.BoolOp .And (a :: b :: rest) pos) (dAnd tA tB) := by
  refine PWD.of (fun W tk => pw_and (ha.pt tk) (hb.pw tk)) fun W F σ H ds M Z Q hs ht => ?_
  refine ⟨F, ds, M, _, _, hs, ht, fun c H1 M1 st mm q => ?_⟩
  cases c with
  | true => exact iteT ⟨F, ds, M1, _, _, hs.to st mm, q, fun b H2 M2 st2 mm2 q2 => ⟨M2, st.trans st2, mm2, q2⟩⟩
  | false => exact iteF ⟨M1, st, mm, q⟩
theorem w_or (ha : PTD X a tA) (hb : PWD X (.BoolOp .Or (b :: rest) pos) tB) : PWD X (.BoolOp .Or (a :: b :: rest) pos) (dOr tA tB) := by
  refine PWD.of (fun W tk => pw_or (ha.pt tk) (hb.pw tk)) fun W F σ H ds M Z Q hs ht => ?_
  refine ⟨F, ds, M, _, _, hs, ht, fun c H1 M1 st mm q => ?_⟩
  cases c with
  | true => exact iteT ⟨M1, st, mm, q⟩
  | false => exact iteF ⟨F, ds, M1, _, _, hs.to st mm, q, fun b H2 M2 st2 mm2 q2 => ⟨M2, st.trans st2, mm2, q2⟩⟩
theorem t_not (ha : PTD X a tA) : PTD X (.UnaryOp .Not a pos) (dNot tA) := PTD.of (fun W tk => pt_not (ha.pt tk)) fun W F σ H ds M Z Q hs ht => ⟨F, ds, M, _, _, hs, ht, fun b H' M' st mm q => ⟨M', st, mm, q⟩⟩
/-- as values -/
def dAndV (ta tb : TD) : TD := fun ds M Z Q => ta ds M Z fun x M1 => match x with | .bl c => if c = true then tb ds M1 Z Q else Q (.bl false) M1 | _ => False
@[simp ↓] theorem dAndV_eq (ta tb : TD) : ∀ ds M Z Q, dAndV ta tb ds M Z Q = (ta ds M Z fun x M1 => match x with | .bl c => if c = true then tb ds M1 Z Q else Q (.bl false) M1 | _ => False) := fun _ _ _ _ => rfl
def dOrV (ta tb : TD) : TD := fun ds M Z Q => ta ds M Z fun x M1 => match x with | .bl c => if c = true then Q (.bl true) M1 else tb ds M1 Z Q | _ => False
@[simp ↓] theorem dOrV_eq (ta tb : TD) : ∀ ds M Z Q, dOrV ta tb ds M Z Q = (ta ds M Z fun x M1 => match x with | .bl c => if c = true then Q (.bl true) M1 else tb ds M1 Z Q | _ => False) := fun _ _ _ _ => rfl
def dNotV (ta : TD) : TD := fun ds M Z Q => ta ds M Z fun x M1 => match x with | .bl c => Q (.bl (!c)) M1 | _ => False
@[simp ↓] theorem dNotV_eq (ta : TD) : ∀ ds M Z Q, dNotV ta ds M Z Q = (ta ds M Z fun x M1 => match x with | .bl c => Q (.bl (!c)) M1 | _ => False) := fun _ _ _ _ => rfl
theorem d_one {op} {t : TD} (h : PD X a t) : PD X (.BoolOp op [a] pos) t := PD.of (fun W tk => pe_one (h.pe tk)) fun W F σ H ds M Z Q hs ht => ⟨F, ds, M, _, _, hs, ht, KQ.eq⟩
theorem d_and (ha : PD X a ta) (hb : PD X (.BoolOp .And (b :: rest) pos) tb) : PD X (.BoolOp .And (a :: b :: rest) pos) (dAndV ta tb) := by
  refine PD.of (fun W tk => pe_and (ha.pe tk) (hb.pe tk)) fun W F σ H ds M Z Q hs ht => ?_
  refine ⟨F, ds, M, _, _, hs, ht, fun v H1 d M1 st mm rp q => ?_⟩
  cases d with
  | bl c =>
    cases rp
    refine ⟨c, rfl, ?_⟩
    cases c with
    | true => exact iteT ⟨F, ds, M1, _, _, hs.to st mm, q, KQ.eq.on st⟩
    | false => exact iteF ((KQ.eq.on st).at mm (.bl false) q)
  | _ => exact (show False from q).elim
theorem d_or (ha : PD X a ta) (hb : PD X (.BoolOp .Or (b :: rest) pos) tb) : PD X (.BoolOp .Or (a :: b :: rest) pos) (dOrV ta tb) := by
  refine PD.of (fun W tk => pe_or (ha.pe tk) (hb.pe tk)) fun W F σ H ds M Z Q hs ht => ?_
  refine ⟨F, ds, M, _, _, hs, ht, fun v H1 d M1 st mm rp q => ?_⟩
  cases d with
  | bl c =>
    cases rp
    refine ⟨c, rfl, ?_⟩
    cases c with
    | true => exact iteT ((KQ.eq.on st).at mm (.bl true) q)
    | false => exact iteF ⟨F, ds, M1, _, _, hs.to st mm, q, KQ.eq.on st⟩
  | _ => exact (show False from q).elim
theorem d_not (ha : PD X a ta) : PD X (.UnaryOp .Not a pos) (dNotV ta) := by
  refine PD.of (fun W tk => pe_not (ha.pe tk)) fun W F σ H ds M Z Q hs ht => ?_
  refine ⟨F, ds, M, _, _, hs, ht, fun v H1 d M1 st mm rp q => ?_⟩
  cases d with
  | bl c =>
    cases rp
    exact ⟨c, rfl, (KQ.eq.on st).at mm (.bl (!c)) q⟩
  | _ => exact (show False from q).elim
def dIf (t : TTD) (ta tb : TD) : TD := fun ds M Z Q => t ds M Z fun c M1 => if c = true then ta ds M1 Z Q else tb ds M1 Z Q
@[simp ↓] theorem dIf_eq (t : TTD) (ta tb : TD) : ∀ ds M Z Q, dIf t ta tb ds M Z Q = (t ds M Z fun c M1 => if c = true then ta ds M1 Z Q else tb ds M1 Z Q) := fun _ _ _ _ => rfl
theorem d_if {c : Expr} (hc : PTD X c tA) (ha : PD X a ta) (hb : PD X b tb) : PD X (.IfExp c a b pos) (dIf tA ta tb) := by
  refine PD.of (fun W tk => pe_ifExp (hc.pt tk) (ha.pe tk) (hb.pe tk)) fun W F σ H ds M Z Q hs ht => ?_
  refine ⟨F, ds, M, _, _, hs, ht, fun c H1 M1 st mm q => ?_⟩
  cases c with
  | true => exact iteT ⟨F, ds, M1, _, _, hs.to st mm, q, KQ.eq.on st⟩
  | false => exact iteF ⟨F, ds, M1, _, _, hs.to st mm, q, KQ.eq.on st⟩

/-! ### displays -/
def dLst (t : TAD) : TD := fun ds M Z Q => t ds M Z fun xs M1 => xs.length ≤ sizeLine ∧ Q (.lst xs) M1
@[simp ↓] theorem dLst_eq (t : TAD) : ∀ ds M Z Q, dLst t ds M Z Q = (t ds M Z fun xs M1 => xs.length ≤ sizeLine ∧ Q (.lst xs) M1) := fun _ _ _ _ => rfl
def dTup (t : TAD) : TD := fun ds M Z Q => t ds M Z fun xs M1 => xs.length ≤ sizeLine ∧ Q (.tup xs) M1
@[simp ↓] theorem dTup_eq (t : TAD) : ∀ ds M Z Q, dTup t ds M Z Q = (t ds M Z fun xs M1 => xs.length ≤ sizeLine ∧ Q (.tup xs) M1) := fun _ _ _ _ => rfl
theorem d_lst {es : List Expr} {t : TAD} (h : PAD X es t) : PD X (.List es pos) (dLst t) := by
  refine PD.of (fun W tk => pe_lst (h.pa tk)) fun W F σ H ds M Z Q hs ht => ?_
  refine ⟨F, ds, M, _, _, hs, ht, fun vs H1 xs M1 st mm rp q => ⟨by rw [rp.len]; exact q.1, fun p hp => ?_⟩⟩
  exact (KQ.eq.on st).newL mm rp q.2 p hp
theorem d_tup {es : List Expr} {k} {t : TAD} (h : PAD X es t) : PD X (.Tuple es k pos) (dTup t) := by
  refine PD.of (fun W tk => pe_tup (h.pa tk)) fun W F σ H ds M Z Q hs ht => ?_
  refine ⟨F, ds, M, _, _, hs, ht, fun vs H1 xs M1 st mm rp q => ⟨by rw [rp.len]; exact q.1, fun p hp => ?_⟩⟩
  exact (KQ.eq.on st).newT mm rp q.2 p hp

/-! ### calls of built-ins, by data -/
abbrev RCD := List D → MM → QD → Prop
def CallD (X : Cx) (f : Value) (r : RCD) : Prop := ∃ rv, CallR X f rv ∧ ∀ F H M vs xs Q QV, RMM X.K F H M → RepA X.K (ak F M) H vs xs → r xs M Q → KQ X.K F H M Q QV → rv vs H QV
def dCB (r : RCD) (t : TAD) : TD := fun ds M Z Q => t ds M Z fun xs M1 => r xs M1 Q
@[simp ↓] theorem dCB_eq (r : RCD) (t : TAD) : ∀ ds M Z Q, dCB r t ds M Z Q = (t ds M Z fun xs M1 => r xs M1 Q) := fun _ _ _ _ => rfl
theorem d_callB {x : Str} {id : String} {e : Expr} {es : List Expr} {t : TAD} {r : RCD} {p pos : Pos} (hc : CallD X (.builtin id) r) (hm : X.mg x = none) (hv : bootBuiltins x = some (.builtin id)) (h : PAD X (e :: es) t) (hg : Gl X x := by rfl)
    (hn : x ≠ "__name__" := by decide) (hdb : (x == ("__debug__" : Str)) = false := by decide) (he : notStar e = true := by rfl) (hpl : noStars es = true := by rfl) : PD X (.Call (.Name x p) (e :: es) [] pos) (dCB r t) := by
  obtain ⟨rv, o, hr⟩ := hc
  refine PD.of (fun W tk => pe_callB o hg hm hv (h.pa tk) hn hdb (star_cons he) (star_any hpl)) fun W F σ H ds M Z Q hs ht => ?_
  exact ⟨F, ds, M, _, _, hs, ht, fun vs H1 xs M1 st mm rp q => hr F H1 M1 vs xs Q _ mm rp q (KQ.eq.on st)⟩
theorem d_callTy {x : Str} {T : String} {e : Expr} {es : List Expr} {t : TAD} {r : RCD} {p pos : Pos} (hc : CallD X (.type T) r) (hm : X.mg x = none) (hv : bootBuiltins x = some (.type T)) (h : PAD X (e :: es) t) (hg : Gl X x := by rfl)
    (hn : x ≠ "__name__" := by decide) (hdb : (x == ("__debug__" : Str)) = false := by decide) (he : notStar e = true := by rfl) (hpl : noStars es = true := by rfl) : PD X (.Call (.Name x p) (e :: es) [] pos) (dCB r t) := by
  obtain ⟨rv, o, hr⟩ := hc
  refine PD.of (fun W tk => pe_callTy o hg hm hv (h.pa tk) hn hdb (star_cons he) (star_any hpl)) fun W F σ H ds M Z Q hs ht => ?_
  exact ⟨F, ds, M, _, _, hs, ht, fun vs H1 xs M1 st mm rp q => hr F H1 M1 vs xs Q _ mm rp q (KQ.eq.on st)⟩
end
end L2.Dl

namespace L2.Dl
open PySem PySem.Spec PyProof.Rows

/-! ### data as the library's -/
mutual
def toPy : D → Option PyData
  | .non => some .none
  | .bl b => some (.bool b)
  | .int i => some (.int i)
  | .str x => some (.str x)
  | .lst xs => (toPyL xs).map .list
  | .tup xs => (toPyL xs).map .tuple
  | _ => none
def toPyL : List D → Option (List PyData)
  | [] => some []
  | x :: r => match toPy x, toPyL r with
    | some p, some q => some (p :: q)
    | _, _ => none
end
def okD (x : D) : Bool := match toPy x with | some p => decide (p.depth ≤ 64) | none => false
def eqD (x y : D) : Bool := match toPy x, toPy y with | some p, some q => PyData.eqv p q | _, _ => false
def inD (x : D) (ys : List D) : Bool := ys.any fun y => eqD y x
mutual
theorem Rep.dp {K : PySem.W.Frag} {B : List Addr} {H : Hp} : ∀ {v : V} {d : D} {p : PyData}, Rep K B H v d → toPy d = some p → Dp K H v p
  | _, _, _, .non, e => by cases e; exact .non
  | _, _, _, .bl b, e => by cases e; exact .bl b
  | _, _, _, .int i, e => by cases e; exact .int i
  | _, _, _, .str x _, e => by cases e; exact .str x
  | _, _, _, .ty n, e => by cases e
  | _, _, _, @Rep.lst _ _ _ a xs ds h r, e => by
    simp only [toPy, Option.map_eq_some_iff] at e
    obtain ⟨q, h1, rfl⟩ := e
    exact .lst h.sq (RepA.dp r h1)
  | _, _, _, @Rep.tup _ _ _ a xs ds h r, e => by
    simp only [toPy, Option.map_eq_some_iff] at e
    obtain ⟨q, h1, rfl⟩ := e
    exact .tup h.sq (RepA.dp r h1)
  | _, _, _, .obj _ _ _, e => by cases e
  | _, _, _, .exn _ _ _ _ _ _ _, e => by cases e
  | _, _, _, .dK _ _ _, e => by cases e
  | _, _, _, .dT _ _ _, e => by cases e
  | _, _, _, .ref a, e => by cases e
  | _, _, _, .glo x, e => by cases e
  | _, _, _, .scr _, e => by cases e
  | _, _, _, .act _ _, e => by cases e
theorem RepA.dp {K : PySem.W.Frag} {B : List Addr} {H : Hp} : ∀ {vs : List V} {ds : List D} {p : List PyData}, RepA K B H vs ds → toPyL ds = some p → DpAll K H vs p
  | _, _, _, .nil, e => by cases e; exact .nil
  | _, _, _, @RepA.cons _ _ _ v vs d ds h r, e => by
    unfold toPyL at e
    cases q1 : toPy d with
    | none => rw [q1] at e; cases e
    | some a =>
      cases q2 : toPyL ds with
      | none => rw [q1, q2] at e; cases e
      | some b =>
        rw [q1, q2] at e
        cases e
        exact .cons (Rep.dp h q1) (RepA.dp r q2)
end

/-! ### what may change -/
def put (M : MM) (a : Addr) (mo : MO) : MM := M.map fun p => if p.1 = a then (a, mo) else p
theorem keys_put (M : MM) (a : Addr) (mo : MO) : keys (put M a mo) = keys M := by
  unfold keys put
  rw [List.map_map]
  refine List.map_congr_left fun p _ => ?_
  show (if p.1 = a then (a, mo) else p).1 = p.1
  split
  · rename_i h; exact h.symm
  · rfl
theorem lookup_mem {M : MM} {a : Addr} {mo : MO} (h : M.lookup a = some mo) : (a, mo) ∈ M := by
  induction M with
  | nil => cases h
  | cons p r ih =>
    obtain ⟨b, q⟩ := p
    by_cases e : (a == b) = true
    · simp only [List.lookup, e] at h
      cases h
      have e' : a = b := by simpa using e
      subst e'
      exact List.mem_cons_self
    · have e' : (a == b) = false := by simpa using e
      simp only [List.lookup, e'] at h
      exact List.mem_cons_of_mem _ (ih h)
theorem lookup_key {M : MM} {a : Addr} {mo : MO} (h : M.lookup a = some mo) : a ∈ keys M := List.mem_map.mpr ⟨_, lookup_mem h, rfl⟩
theorem lookup_put {M : MM} {a : Addr} {mo mo' : MO} (h : M.lookup a = some mo) : (put M a mo').lookup a = some mo' := by
  induction M with
  | nil => cases h
  | cons p r ih =>
    obtain ⟨b, q⟩ := p
    by_cases e : a = b
    · subst e
      show List.lookup a ((if a = a then (a, mo') else (a, q)) :: put r a mo') = some mo'
      rw [if_pos rfl]
      simp [List.lookup]
    · have e' : (a == b) = false := by simpa using e
      simp only [List.lookup, e'] at h
      show List.lookup a ((if b = a then (a, mo') else (b, q)) :: put r a mo') = some mo'
      rw [if_neg (Ne.symm e)]
      simp only [List.lookup, e']
      exact ih h
theorem RMM.get {K : PySem.W.Frag} {F : List Addr} {H : Hp} {M : MM} (m : RMM K F H M) {a : Addr} {mo : MO} (h : M.lookup a = some mo) : RepO K (ak F M) H a mo := m.at_ a mo (lookup_mem h)
/-- a thing is changed -/
theorem stp_put {H : Hp} {B : List Addr} {a : Addr} {o : HO} (h : a ∈ B) : Stp H B (upd H a o) B :=
  ⟨fun b u hb e => by rw [upd_ne (fun z => hb (by rw [z]; exact h))]; exact e, fun b hb => .inl hb⟩
theorem RMM.put {K : PySem.W.Frag} {F : List Addr} {H : Hp} {M : MM} {a : Addr} {o : HO} {mo : MO} (m : RMM K F H M) (h : a ∈ keys M) (r : RepO K (ak F M) (upd H a o) a mo) : RMM K F (upd H a o) (put M a mo) := by
  refine ⟨by rw [keys_put]; exact m.nd, fun b q hb => ?_, fun f hf => ?_⟩
  · unfold ak
    rw [keys_put]
    unfold Dl.put at hb
    obtain ⟨p, hp, e⟩ := List.mem_map.mp hb
    split at e
    · cases e; exact r
    · rename_i hne
      subst e
      exact (m.at_ _ _ hp).step (stp_put h).fix (upd_ne hne)
  · obtain ⟨h1, u, e⟩ := m.fd f hf
    rw [keys_put]
    exact ⟨h1, u, by rw [upd_ne (fun z => h1 (by rw [z]; exact h))]; exact e⟩
/-- what follows a change -/
theorem KQ.put {K : PySem.W.Frag} {F : List Addr} {H : Hp} {M : MM} {Q : QD} {QV : VK} (k : KQ K F H M Q QV) (mm : RMM K F H M) {a : Addr} {o : HO} {mo : MO} {v : V} {d : D} (h : a ∈ keys M) (r : RepO K (ak F M) (upd H a o) a mo) (rv : Rep K (ak F M) (upd H a o) v d) (q : Q d (Dl.put M a mo)) : QV v (upd H a o) := by
  refine k v (upd H a o) d (Dl.put M a mo) ?_ (mm.put h r) ?_ q
  · rw [keys_put]; exact stp_put h
  · unfold ak; rw [keys_put]; exact rv
theorem RMM.putL {K : PySem.W.Frag} {F : List Addr} {H : Hp} {M : MM} {a : Addr} {vs : List V} {xs : List D} (h : a ∈ keys M) (r : RepA K (ak F M) H vs xs) : RepO K (ak F M) (upd H a (.lst vs)) a (.lst xs) := ⟨vs, upd_same, r.step (stp_put h).fix⟩

section
variable {X : Cx} {a b c : Expr} {ta tb tc : TD} {pos : Pos}
/-! ### arithmetic -/
def dI2 (C : Int → Int → Prop) (g : Int → Int → D) : R2D := fun x y M Q => match x, y with | .int i, .int j => C i j ∧ Q (g i j) M | _, _ => False
@[simp ↓] theorem dI2_eq (C : Int → Int → Prop) (g : Int → Int → D) : ∀ x y M Q, dI2 C g x y M Q = (match x, y with | .int i, .int j => C i j ∧ Q (g i j) M | _, _ => False) := fun _ _ _ _ => rfl
theorem opd_I {f : Value → Value → Sem Value} {C : Int → Int → Prop} {g : Int → Int → V} {g' : Int → Int → D} (h : OpR X f (rI C g)) (hg : ∀ B H i j, Rep X.K B H (g i j) (g' i j)) : OpD X f (dI2 C g') := by
  refine ⟨_, h, fun F H M x y dx dy Q QV mm rx ry hr k => ?_⟩
  cases dx with
  | int i =>
    cases dy with
    | int j =>
      cases rx
      cases ry
      exact ⟨i, j, rfl, rfl, hr.1, k.at mm (hg _ _ i j) hr.2⟩
    | _ => exact (show False from hr).elim
  | _ => exact (show False from hr).elim
def dI0 (g : Int → Int → D) : R2D := fun x y M Q => match x, y with | .int i, .int j => Q (g i j) M | _, _ => False
@[simp ↓] theorem dI0_eq (g : Int → Int → D) : ∀ x y M Q, dI0 g x y M Q = (match x, y with | .int i, .int j => Q (g i j) M | _, _ => False) := fun _ _ _ _ => rfl
theorem opd_I0 {f : Value → Value → Sem Value} {g : Int → Int → V} {g' : Int → Int → D} (h : OpR X f (rI0 g)) (hg : ∀ B H i j, Rep X.K B H (g i j) (g' i j)) : OpD X f (dI0 g') := by
  refine ⟨_, h, fun F H M x y dx dy Q QV mm rx ry hr k => ?_⟩
  cases dx with
  | int i =>
    cases dy with
    | int j =>
      cases rx
      cases ry
      exact ⟨i, j, rfl, rfl, k.at mm (hg _ _ i j) hr⟩
    | _ => exact (show False from hr).elim
  | _ => exact (show False from hr).elim
abbrev dSub : R2D := dI0 fun i j => .int (i - j)
theorem o_sub : OpD X (binaryOp .Sub) (dI0 fun i j => .int (i - j)) := opd_I0 op_sub fun _ _ _ _ => .int _
abbrev dMul : R2D := dI2 CMul fun i j => .int (i * j)
theorem o_mul : OpD X (binaryOp .Mult) (dI2 CMul fun i j => .int (i * j)) := opd_I op_mul fun _ _ _ _ => .int _
abbrev dFdiv : R2D := dI2 CDivW fun i j => .int (i / j)
theorem o_fdiv : OpD X (binaryOp .FloorDiv) (dI2 CDivW fun i j => .int (i / j)) := opd_I op_fdivW fun _ _ _ _ => .int _
abbrev dMod : R2D := dI2 (fun _ j => 0 < j) fun i j => .int (i % j)
theorem o_mod : OpD X (binaryOp .Mod) (dI2 (fun _ j => 0 < j) fun i j => .int (i % j)) := opd_I op_mod fun _ _ _ _ => .int _
abbrev dPow : R2D := dI2 CPow fun i j => .int (i ^ j.toNat)
theorem o_pow : OpD X (binaryOp .Pow) (dI2 CPow fun i j => .int (i ^ j.toNat)) := opd_I op_pow fun _ _ _ _ => .int _
/-- + of ints, texts, lists, tuples -/
def dAdd : R2D := fun x y M Q => match x, y with
  | .int i, .int j => Q (.int (i + j)) M
  | .str i, .str j => i.length + j.length ≤ sizeLine ∧ Q (.str (i ++ j)) M
  | .lst xs, .lst ys => xs.length + ys.length ≤ sizeLine ∧ Q (.lst (xs ++ ys)) M
  | .tup xs, .tup ys => xs.length + ys.length ≤ sizeLine ∧ Q (.tup (xs ++ ys)) M
  | _, _ => False
@[simp ↓] theorem dAdd_eq : ∀ x y M Q, dAdd x y M Q = (match x, y with
  | .int i, .int j => Q (.int (i + j)) M
  | .str i, .str j => i.length + j.length ≤ sizeLine ∧ Q (.str (i ++ j)) M
  | .lst xs, .lst ys => xs.length + ys.length ≤ sizeLine ∧ Q (.lst (xs ++ ys)) M
  | .tup xs, .tup ys => xs.length + ys.length ≤ sizeLine ∧ Q (.tup (xs ++ ys)) M
  | _, _ => False) := fun _ _ _ _ => rfl
theorem o_add : OpD X (binaryOp .Add) dAdd := by
  refine ⟨_, op_add.or (op_add_str.or (op_cat.or op_catA)), fun F H M x y dx dy Q QV mm rx ry hr k => ?_⟩
  cases dx with
  | int i =>
    cases dy with
    | int j => cases rx; cases ry; exact .inl ⟨i, j, rfl, rfl, k.at mm (.int _) hr⟩
    | _ => exact (show False from hr).elim
  | str i =>
    cases dy with
    | str j => cases rx with | str _ hx => cases ry with | str _ hy => exact .inr (.inl ⟨i, j, rfl, rfl, hr.1, k.at mm (.str _ (okS_app hx hy)) hr.2⟩)
    | _ => exact (show False from hr).elim
  | lst xs =>
    cases dy with
    | lst ys =>
      cases rx with
      | lst hx rx =>
        cases ry with
        | lst hy ry => exact .inr (.inr (.inl ⟨_, _, _, _, rfl, rfl, hx.2, hy.2, by rw [rx.len, ry.len]; exact hr.1, k.newL mm (rx.append ry) hr.2⟩))
    | _ => exact (show False from hr).elim
  | tup xs =>
    cases dy with
    | tup ys =>
      cases rx with
      | @tup a vs _ hx rx' =>
        cases ry with
        | @tup b ws _ hy ry' =>
          refine .inr (.inr (.inr ⟨a, b, vs, ws, rfl, rfl, hx.sq, hy.sq, by rw [rx'.len, ry'.len]; exact hr.1, fun e => ?_, fun e1 e2 => ?_, fun e1 e2 => k.newT mm (rx'.append ry') hr.2⟩))
          · subst e
            cases rx'
            exact k.at mm (.tup hy ry') hr.2
          · subst e2
            cases ry'
            refine k.at mm (.tup hx rx') ?_
            have q := hr.2
            rw [List.append_nil] at q
            exact q
    | _ => exact (show False from hr).elim
  | _ => exact (show False from hr).elim
/-! ### comparisons -/
def dLtG (fi : Int → Int → Bool) (fs : Str → Str → Bool) : R2D := fun x y M Q => match x, y with
  | .int i, .int j => Q (.bl (fi i j)) M
  | .str i, .str j => Q (.bl (fs i j)) M
  | _, _ => False
@[simp ↓] theorem dLtG_eq (fi : Int → Int → Bool) (fs : Str → Str → Bool) : ∀ x y M Q, dLtG fi fs x y M Q = (match x, y with
  | .int i, .int j => Q (.bl (fi i j)) M
  | .str i, .str j => Q (.bl (fs i j)) M
  | _, _ => False) := fun _ _ _ _ => rfl
theorem opd_lt {op : CmpOp} {fi : Int → Int → Bool} {fs : Str → Str → Bool} (h : OpR X (compareOp op) (rI0 fun i j => .bl (fi i j))) (h2 : OpR X (compareOp op) (fun x y H Q => ∃ i j, x = .str i ∧ y = .str j ∧ Q (.bl (fs i j)) H)) : OpD X (compareOp op) (dLtG fi fs) := by
  refine ⟨_, h.or h2, fun F H M x y dx dy Q QV mm rx ry hr k => ?_⟩
  cases dx with
  | int i =>
    cases dy with
    | int j => cases rx; cases ry; exact .inl ⟨i, j, rfl, rfl, k.at mm (.bl _) hr⟩
    | _ => exact (show False from hr).elim
  | str i =>
    cases dy with
    | str j => cases rx; cases ry; exact .inr ⟨i, j, rfl, rfl, k.at mm (.bl _) hr⟩
    | _ => exact (show False from hr).elim
  | _ => exact (show False from hr).elim
abbrev dLt : R2D := dLtG (fun i j => decide (i < j)) (fun i j => decide (i.cps.toList < j.cps.toList))
abbrev dLe : R2D := dLtG (fun i j => decide (i ≤ j)) (fun i j => !decide (j.cps.toList < i.cps.toList))
abbrev dGt : R2D := dLtG (fun i j => decide (j < i)) (fun i j => decide (j.cps.toList < i.cps.toList))
abbrev dGe : R2D := dLtG (fun i j => decide (j ≤ i)) (fun i j => !decide (i.cps.toList < j.cps.toList))
theorem c_lt : OpD X (compareOp .Lt) dLt := opd_lt op_lt op_lt_str
theorem c_le : OpD X (compareOp .LtE) dLe := opd_lt op_le op_le_str
theorem c_gt : OpD X (compareOp .Gt) dGt := opd_lt op_gt op_gt_str
theorem c_ge : OpD X (compareOp .GtE) dGe := opd_lt op_ge op_ge_str
def dEq : R2D := fun x y M Q => okD x = true ∧ okD y = true ∧ Q (.bl (eqD x y)) M
@[simp ↓] theorem dEq_eq : ∀ x y M Q, dEq x y M Q = (okD x = true ∧ okD y = true ∧ Q (.bl (eqD x y)) M) := fun _ _ _ _ => rfl
def dNe : R2D := fun x y M Q => okD x = true ∧ okD y = true ∧ Q (.bl (!eqD x y)) M
@[simp ↓] theorem dNe_eq : ∀ x y M Q, dNe x y M Q = (okD x = true ∧ okD y = true ∧ Q (.bl (!eqD x y)) M) := fun _ _ _ _ => rfl
theorem okD_some {x : D} (h : okD x = true) : ∃ p, toPy x = some p ∧ p.depth ≤ 64 := by
  unfold okD at h
  split at h
  · rename_i p e; exact ⟨p, e, of_decide_eq_true h⟩
  · cases h
mutual
theorem Rep.lay {K : PySem.W.Frag} {B : List Addr} {H : Hp} : ∀ {v : V} {d : D} {p : PyData}, Rep K B H v d → toPy d = some p → p.canLay0 = true
  | _, _, _, .non, e => by cases e; rfl
  | _, _, _, .bl b, e => by cases e; rfl
  | _, _, _, .int i, e => by cases e; rfl
  | _, _, _, .str x h, e => by cases e; exact h
  | _, _, _, .ty n, e => by cases e
  | _, _, _, @Rep.lst _ _ _ a xs ds h r, e => by
    simp only [toPy, Option.map_eq_some_iff] at e
    obtain ⟨q, h1, rfl⟩ := e
    exact RepA.lay r h1
  | _, _, _, @Rep.tup _ _ _ a xs ds h r, e => by
    simp only [toPy, Option.map_eq_some_iff] at e
    obtain ⟨q, h1, rfl⟩ := e
    exact RepA.lay r h1
  | _, _, _, .obj _ _ _, e => by cases e
  | _, _, _, .exn _ _ _ _ _ _ _, e => by cases e
  | _, _, _, .dK _ _ _, e => by cases e
  | _, _, _, .dT _ _ _, e => by cases e
  | _, _, _, .ref a, e => by cases e
  | _, _, _, .glo x, e => by cases e
  | _, _, _, .scr _, e => by cases e
  | _, _, _, .act _ _, e => by cases e
theorem RepA.lay {K : PySem.W.Frag} {B : List Addr} {H : Hp} : ∀ {vs : List V} {ds : List D} {p : List PyData}, RepA K B H vs ds → toPyL ds = some p → PyData.canLayAll0 p = true
  | _, _, _, .nil, e => by cases e; rfl
  | _, _, _, @RepA.cons _ _ _ v vs d ds h r, e => by
    unfold toPyL at e
    cases q1 : toPy d with
    | none => rw [q1] at e; cases e
    | some a =>
      cases q2 : toPyL ds with
      | none => rw [q1, q2] at e; cases e
      | some b =>
        rw [q1, q2] at e
        cases e
        show (a.canLay0 && PyData.canLayAll0 b) = true
        rw [Rep.lay h q1, RepA.lay r q2]
        rfl
end
theorem shaped_of {p : PyData} (h : p.canLay0 = true) (d : p.depth ≤ 64) : SeqAt.shaped p = true := by
  unfold SeqAt.shaped
  rw [h, decide_eq_true d]
  rfl
theorem c_eq (hu : X.A.units + 64 < cLine) : OpD X (compareOp .Eq) dEq := by
  refine ⟨_, op_eqD hu, fun F H M x y dx dy Q QV mm rx ry hr k => ?_⟩
  obtain ⟨p, e1, s1⟩ := okD_some hr.1
  obtain ⟨q, e2, s2⟩ := okD_some hr.2.1
  refine ⟨p, q, rx.dp e1, ry.dp e2, shaped_of (rx.lay e1) s1, shaped_of (ry.lay e2) s2, k.at mm (.bl _) ?_⟩
  have h := hr.2.2
  unfold eqD at h
  rw [e1, e2] at h
  exact h
theorem c_ne (hu : X.A.units + 64 < cLine) : OpD X (compareOp .NotEq) dNe := by
  refine ⟨_, op_neD hu, fun F H M x y dx dy Q QV mm rx ry hr k => ?_⟩
  obtain ⟨p, e1, s1⟩ := okD_some hr.1
  obtain ⟨q, e2, s2⟩ := okD_some hr.2.1
  refine ⟨p, q, rx.dp e1, ry.dp e2, shaped_of (rx.lay e1) s1, shaped_of (ry.lay e2) s2, k.at mm (.bl _) ?_⟩
  have h := hr.2.2
  unfold eqD at h
  rw [e1, e2] at h
  exact h
/-- is None -/
@[simp] def isN : D → Bool
  | .non => true
  | _ => false
def dIs : R2D := fun x y M Q => match y with | .non => Q (.bl (isN x)) M | _ => False
@[simp ↓] theorem dIs_eq : ∀ x y M Q, dIs x y M Q = (match y with | .non => Q (.bl (isN x)) M | _ => False) := fun _ _ _ _ => rfl
def dIsNot : R2D := fun x y M Q => match y with | .non => Q (.bl (!isN x)) M | _ => False
@[simp ↓] theorem dIsNot_eq : ∀ x y M Q, dIsNot x y M Q = (match y with | .non => Q (.bl (!isN x)) M | _ => False) := fun _ _ _ _ => rfl
theorem Rep.isN {K : PySem.W.Frag} {B : List Addr} {H : Hp} {v : V} {d : D} (r : Rep K B H v d) : decide (v = .non) = Dl.isN d := by
  cases r <;> rfl
theorem c_is : OpD X (compareOp .Is) dIs := by
  refine ⟨_, op_isN, fun F H M x y dx dy Q QV mm rx ry hr k => ?_⟩
  cases dy with
  | non => cases ry; exact ⟨rfl, by rw [rx.isN]; exact k.at mm (.bl _) hr⟩
  | _ => exact (show False from hr).elim
theorem c_isnot : OpD X (compareOp .IsNot) dIsNot := by
  refine ⟨_, op_notN, fun F H M x y dx dy Q QV mm rx ry hr k => ?_⟩
  cases dy with
  | non => cases ry; exact ⟨rfl, by rw [rx.isN]; exact k.at mm (.bl _) hr⟩
  | _ => exact (show False from hr).elim
/-! ### in -/
@[simp] def flatD : D → Bool
  | .non => true | .bl _ => true | .int _ => true | .str _ => true | _ => false
theorem Rep.flat {K : PySem.W.Frag} {B : List Addr} {H : Hp} {v : V} {d : D} (r : Rep K B H v d) (h : flatD d = true) : flatV v = true := by
  cases r <;> first | rfl | cases h
theorem Rep.eqV {K : PySem.W.Frag} {B : List Addr} {H : Hp} {v w : V} {d e : D} (r : Rep K B H v d) (q : Rep K B H w e) (h : flatD d = true) (h' : flatD e = true) : L2.eqV v w = eqD d e := by
  cases r <;> first | (cases h; done) | (cases q <;> first | (cases h'; done) | rfl)
theorem RepA.flat {K : PySem.W.Frag} {B : List Addr} {H : Hp} : ∀ {vs : List V} {ds : List D}, RepA K B H vs ds → ds.all flatD = true → vs.all flatV = true
  | _, _, .nil, _ => rfl
  | _, _, .cons r t, h => by
    rw [List.all_cons, Bool.and_eq_true] at h ⊢
    exact ⟨r.flat h.1, RepA.flat t h.2⟩
theorem RepA.inV {K : PySem.W.Frag} {B : List Addr} {H : Hp} {v : V} {d : D} (r : Rep K B H v d) (hd : flatD d = true) : ∀ {vs : List V} {ds : List D}, RepA K B H vs ds → ds.all flatD = true → L2.inV v vs = inD d ds
  | _, _, .nil, _ => rfl
  | _, _, @RepA.cons _ _ _ w vs e ds q t, h => by
    rw [List.all_cons, Bool.and_eq_true] at h
    show (L2.eqV w v || vs.any fun y => L2.eqV y v) = (eqD e d || ds.any fun y => eqD y d)
    rw [q.eqV r h.1 hd]
    have ih := RepA.inV r hd t h.2
    unfold L2.inV inD at ih
    rw [ih]
def toL (ys : List D) : List PyData := (toPyL ys).getD []
theorem eqD_toPyL {p : PyData} {x : D} (e : toPy x = some p) : ∀ {ys : List D} {qs : List PyData}, toPyL ys = some qs → (qs.any fun z => PyData.eqv z p) = inD x ys
  | [], _, h => by cases h; rfl
  | y :: r, _, h => by
    unfold toPyL at h
    cases q1 : toPy y with
    | none => rw [q1] at h; cases h
    | some a =>
      cases q2 : toPyL r with
      | none => rw [q1, q2] at h; cases h
      | some b =>
        rw [q1, q2] at h
        cases h
        show (PyData.eqv a p || b.any fun z => PyData.eqv z p) = (eqD y x || r.any fun z => eqD z x)
        have h1 : eqD y x = PyData.eqv a p := by
          unfold eqD
          rw [q1, e]
        rw [eqD_toPyL e q2, h1]
        rfl
/-- x in y: a sign in a text; data in a list; flat data in a tuple -/
def dInG (g : Bool → Bool) : R2D := fun x y M Q => match y with
  | .str z => (match x with | .str s => (∃ c, s = ⟨#[c]⟩ ∧ Q (.bl (g (decide (c ∈ z.cps.toList)))) M) | _ => False)
  | .lst ys => okD x = true ∧ okD (.lst ys) = true ∧ Q (.bl (g (inD x ys))) M
  | .tup ys => flatD x = true ∧ ys.all flatD = true ∧ Q (.bl (g (inD x ys))) M
  | _ => False
@[simp ↓] theorem dInG_eq (g : Bool → Bool) : ∀ x y M Q, dInG g x y M Q = (match y with
  | .str z => (match x with | .str s => (∃ c, s = ⟨#[c]⟩ ∧ Q (.bl (g (decide (c ∈ z.cps.toList)))) M) | _ => False)
  | .lst ys => okD x = true ∧ okD (.lst ys) = true ∧ Q (.bl (g (inD x ys))) M
  | .tup ys => flatD x = true ∧ ys.all flatD = true ∧ Q (.bl (g (inD x ys))) M
  | _ => False) := fun _ _ _ _ => rfl
theorem okD_lst {ys : List D} (h : okD (.lst ys) = true) : ∃ qs, toPyL ys = some qs ∧ (PyData.list qs).depth ≤ 64 := by
  obtain ⟨p, e, s⟩ := okD_some h
  simp only [toPy, Option.map_eq_some_iff] at e
  obtain ⟨q, h1, rfl⟩ := e
  exact ⟨q, h1, s⟩
theorem c_in (hu : X.A.units + 65 < cLine) : OpD X (compareOp .In) (dInG id) := by
  refine ⟨_, op_in_sign.or ((op_inD hu).or op_in_seq), fun F H M x y dx dy Q QV mm rx ry hr k => ?_⟩
  cases dy with
  | str z =>
    cases dx with
    | str s =>
      cases rx
      cases ry
      obtain ⟨c, e, q⟩ := hr
      subst e
      exact .inl ⟨c, z, rfl, rfl, k.at mm (.bl _) q⟩
    | _ => exact (show False from hr).elim
  | lst ys =>
    obtain ⟨h1, h2, q⟩ := hr
    obtain ⟨p, e1, s1⟩ := okD_some h1
    obtain ⟨qs, e2, s2⟩ := okD_lst h2
    have e3 : toPy (.lst ys) = some (.list qs) := by simp only [toPy, e2]; rfl
    refine .inr (.inl ⟨p, qs, rx.dp e1, ry.dp e3, shaped_of (rx.lay e1) s1, shaped_of (ry.lay e3) s2, ?_⟩)
    rw [eqD_toPyL e1 e2]
    exact k.at mm (.bl _) q
  | tup ys =>
    obtain ⟨h1, h2, q⟩ := hr
    cases ry with
    | tup hy ry =>
      refine .inr (.inr ⟨_, _, rfl, .inr hy.sq, rx.flat h1, ry.flat h2, ?_⟩)
      rw [if_neg Bool.false_ne_true, RepA.inV rx h1 ry h2]
      exact k.at mm (.bl _) q
  | _ => exact (show False from hr).elim
theorem c_notin (hu : X.A.units + 65 < cLine) : OpD X (compareOp .NotIn) (dInG fun b => !b) := by
  refine ⟨_, op_notIn_sign.or ((op_notInD hu).or op_notIn_seq), fun F H M x y dx dy Q QV mm rx ry hr k => ?_⟩
  cases dy with
  | str z =>
    cases dx with
    | str s =>
      cases rx
      cases ry
      obtain ⟨c, e, q⟩ := hr
      subst e
      exact .inl ⟨c, z, rfl, rfl, k.at mm (.bl _) q⟩
    | _ => exact (show False from hr).elim
  | lst ys =>
    obtain ⟨h1, h2, q⟩ := hr
    obtain ⟨p, e1, s1⟩ := okD_some h1
    obtain ⟨qs, e2, s2⟩ := okD_lst h2
    have e3 : toPy (.lst ys) = some (.list qs) := by simp only [toPy, e2]; rfl
    refine .inr (.inl ⟨p, qs, rx.dp e1, ry.dp e3, shaped_of (rx.lay e1) s1, shaped_of (ry.lay e3) s2, ?_⟩)
    rw [eqD_toPyL e1 e2]
    exact k.at mm (.bl _) q
  | tup ys =>
    obtain ⟨h1, h2, q⟩ := hr
    cases ry with
    | tup hy ry =>
      refine .inr (.inr ⟨_, _, rfl, .inr hy.sq, rx.flat h1, ry.flat h2, ?_⟩)
      rw [if_pos rfl, RepA.inV rx h1 ry h2]
      exact k.at mm (.bl _) q
  | _ => exact (show False from hr).elim

/-! ### subscripts -/
theorem atI_mem {α : Type} {xs : List α} {i : Int} {d : α} (h : L2.atI xs i = some d) : d ∈ xs := by
  unfold L2.atI at h
  cases q : ixN xs.length i with
  | none => rw [q] at h; cases h
  | some j => rw [q] at h; exact List.mem_of_getElem? h
theorem RepA.atI {K : PySem.W.Frag} {B : List Addr} {H : Hp} {vs : List V} {ds : List D} {i : Int} {d : D} (r : RepA K B H vs ds) (h : L2.atI ds i = some d) : ∃ v, L2.atI vs i = some v ∧ Rep K B H v d := by
  unfold L2.atI at h ⊢
  rw [r.len]
  cases q : ixN ds.length i with
  | none => rw [q] at h; cases h
  | some j =>
    rw [q] at h
    obtain ⟨v, h1, h2⟩ := r.get (show ds[j]? = some d from h)
    exact ⟨v, h1, h2⟩
def dIx : R2D := fun x y M Q => match y with
  | .int i => (match x with
    | .lst xs => optK (L2.atI xs i) fun d => Q d M
    | .tup xs => optK (L2.atI xs i) fun d => Q d M
    | .str z => z.length ≤ sizeLine ∧ optK (L2.atI z.cps.toList i) fun c => Q (.str ⟨#[c]⟩) M
    | .ref a => lstK (M.lookup a) fun xs => optK (L2.atI xs i) fun d => Q d M
    | _ => False)
  | _ => False
@[simp ↓] theorem dIx_eq : ∀ x y M Q, dIx x y M Q = (match y with
  | .int i => (match x with
    | .lst xs => optK (L2.atI xs i) fun d => Q d M
    | .tup xs => optK (L2.atI xs i) fun d => Q d M
    | .str z => z.length ≤ sizeLine ∧ optK (L2.atI z.cps.toList i) fun c => Q (.str ⟨#[c]⟩) M
    | .ref a => lstK (M.lookup a) fun xs => optK (L2.atI xs i) fun d => Q d M
    | _ => False)
  | _ => False) := fun _ _ _ _ => rfl
theorem d_ix (ha : PD X a ta) (hb : PD X b tb) (hs : PlainIx b := by exact fun _ _ => rfl) : PD X (.Subscript a b pos) (dOp dIx ta tb) := by
  refine PD.of (fun W tk => pe_ix ix_seq (ha.pe tk) (hb.pe tk) hs) fun W F σ H ds M Z Q hst ht => ?_
  refine two ?_ hst ht KQ.eq
  intro F H M x y dx dy Q QV mm rx ry hr k
  cases dy with
  | int i =>
    cases ry
    cases dx with
    | lst xs =>
      cases rx with
      | lst hx rx =>
        have hr : optK (L2.atI xs i) (fun d => Q d M) := hr
        unfold optK at hr
        split at hr
        · rename_i d e
          obtain ⟨v, h1, h2⟩ := rx.atI e
          exact .inl ⟨_, _, i, v, rfl, rfl, hx.sq, h1, k.at mm h2 hr⟩
        · exact hr.elim
    | tup xs =>
      cases rx with
      | tup hx rx =>
        have hr : optK (L2.atI xs i) (fun d => Q d M) := hr
        unfold optK at hr
        split at hr
        · rename_i d e
          obtain ⟨v, h1, h2⟩ := rx.atI e
          exact .inr (.inl ⟨_, _, i, v, rfl, rfl, hx.sq, h1, k.at mm h2 hr⟩)
        · exact hr.elim
    | str z =>
      have hxz : PyData.strOk z = true := by cases rx with | str _ h => exact h
      cases rx
      obtain ⟨hz, hr⟩ := hr
      unfold optK at hr
      split at hr
      · rename_i c e
        exact .inr (.inr ⟨z, i, c, rfl, rfl, hz, e, k.at mm (.str _ (okS_one hxz (atI_mem e))) hr⟩)
      · exact hr.elim
    | ref p =>
      cases rx
      have hr : lstK (M.lookup p) (fun xs => optK (L2.atI xs i) fun d => Q d M) := hr
      unfold lstK optK at hr
      split at hr
      · rename_i xs e
        obtain ⟨vs, h1, h2⟩ := mm.get e
        split at hr
        · rename_i d e2
          obtain ⟨v, h3, h4⟩ := h2.atI e2
          exact .inl ⟨_, _, i, v, rfl, rfl, .inl (.inl h1), h3, k.at mm h4 hr⟩
        · exact hr.elim
      · exact hr.elim
    | _ => exact (show False from hr).elim
  | _ => exact (show False from hr).elim
/-! ### len, abs, int, list, all .. -/
def dLen : RCD := fun xs M Q => match xs with
  | [.str z] => z.length ≤ sizeLine ∧ Q (.int z.length) M
  | [.lst ys] => Q (.int ys.length) M
  | [.tup ys] => Q (.int ys.length) M
  | [.ref a] => lstK (M.lookup a) fun ys => Q (.int ys.length) M
  | _ => False
@[simp ↓] theorem dLen_eq : ∀ xs M Q, dLen xs M Q = (match xs with
  | [.str z] => z.length ≤ sizeLine ∧ Q (.int z.length) M
  | [.lst ys] => Q (.int ys.length) M
  | [.tup ys] => Q (.int ys.length) M
  | [.ref a] => lstK (M.lookup a) fun ys => Q (.int ys.length) M
  | _ => False) := fun _ _ _ => rfl
theorem repA1 {K : PySem.W.Frag} {B : List Addr} {H : Hp} {vs : List V} {d : D} (r : RepA K B H vs [d]) : ∃ v, vs = [v] ∧ Rep K B H v d := by
  cases r with
  | cons h t => cases t; exact ⟨_, rfl, h⟩
theorem repA2 {K : PySem.W.Frag} {B : List Addr} {H : Hp} {vs : List V} {d e : D} (r : RepA K B H vs [d, e]) : ∃ v w, vs = [v, w] ∧ Rep K B H v d ∧ Rep K B H w e := by
  cases r with
  | cons h t =>
    obtain ⟨w, rfl, h2⟩ := repA1 t
    exact ⟨_, w, rfl, h, h2⟩
theorem k_len : CallD X (.builtin "len") dLen := by
  refine ⟨_, call_len, fun F H M vs xs Q QV mm rp hr k => ?_⟩
  match xs, hr with
  | [.str z], hr => obtain ⟨v, rfl, r⟩ := repA1 rp; cases r; exact ⟨_, _, rfl, ⟨hr.1, rfl⟩, k.at mm (.int _) hr.2⟩
  | [.lst ys], hr =>
    obtain ⟨v, rfl, r⟩ := repA1 rp
    cases r with
    | lst hx r => exact ⟨_, _, rfl, .inl ⟨_, hx.sq, rfl⟩, by rw [r.len]; exact k.at mm (.int _) hr⟩
  | [.tup ys], hr =>
    obtain ⟨v, rfl, r⟩ := repA1 rp
    cases r with
    | tup hx r => exact ⟨_, _, rfl, .inr ⟨_, hx.sq, rfl⟩, by rw [r.len]; exact k.at mm (.int _) hr⟩
  | [.ref a], hr =>
    obtain ⟨v, rfl, r⟩ := repA1 rp
    cases r
    have hr : lstK (M.lookup a) (fun ys => Q (.int ys.length) M) := hr
    unfold lstK at hr
    split at hr
    · rename_i ys e
      obtain ⟨ws, h1, h2⟩ := mm.get e
      exact ⟨_, _, rfl, .inl ⟨_, .inl (.inl h1), rfl⟩, by rw [h2.len]; exact k.at mm (.int _) hr⟩
    · exact hr.elim
def dAbs : RCD := fun xs M Q => match xs with | [.int i] => Q (.int (if i < 0 then -i else i)) M | _ => False
@[simp ↓] theorem dAbs_eq : ∀ xs M Q, dAbs xs M Q = (match xs with | [.int i] => Q (.int (if i < 0 then -i else i)) M | _ => False) := fun _ _ _ => rfl
theorem k_abs : CallD X (.builtin "abs") dAbs := by
  refine ⟨_, call_abs, fun F H M vs xs Q QV mm rp hr k => ?_⟩
  match xs, hr with
  | [.int i], hr => obtain ⟨v, rfl, r⟩ := repA1 rp; cases r; exact ⟨i, rfl, k.at mm (.int _) hr⟩
def dIntC : RCD := fun xs M Q => match xs with | [.int i] => Q (.int i) M | [.bl b] => Q (.int (if b then 1 else 0)) M | _ => False
@[simp ↓] theorem dIntC_eq : ∀ xs M Q, dIntC xs M Q = (match xs with | [.int i] => Q (.int i) M | [.bl b] => Q (.int (if b then 1 else 0)) M | _ => False) := fun _ _ _ => rfl
theorem k_int : CallD X (.type "int") dIntC := by
  refine ⟨_, call_int1, fun F H M vs xs Q QV mm rp hr k => ?_⟩
  match xs, hr with
  | [.int i], hr => obtain ⟨v, rfl, r⟩ := repA1 rp; cases r; exact .inl ⟨i, rfl, k.at mm (.int _) hr⟩
  | [.bl b], hr => obtain ⟨v, rfl, r⟩ := repA1 rp; cases r; exact .inr ⟨b, rfl, k.at mm (.int _) hr⟩
def dListC : RCD := fun xs M Q => match xs with
  | [.lst ys] => Q (.lst ys) M
  | [.tup ys] => Q (.lst ys) M
  | [.ref a] => lstK (M.lookup a) fun ys => Q (.lst ys) M
  | _ => False
@[simp ↓] theorem dListC_eq : ∀ xs M Q, dListC xs M Q = (match xs with
  | [.lst ys] => Q (.lst ys) M
  | [.tup ys] => Q (.lst ys) M
  | [.ref a] => lstK (M.lookup a) fun ys => Q (.lst ys) M
  | _ => False) := fun _ _ _ => rfl
theorem k_list : CallD X (.type "list") dListC := by
  refine ⟨_, call_list_of, fun F H M vs xs Q QV mm rp hr k => ?_⟩
  match xs, hr with
  | [.lst ys], hr =>
    obtain ⟨v, rfl, r⟩ := repA1 rp
    cases r with
    | lst hx r => exact ⟨_, _, rfl, .inl hx.sq, k.newL mm r hr⟩
  | [.tup ys], hr =>
    obtain ⟨v, rfl, r⟩ := repA1 rp
    cases r with
    | tup hx r => exact ⟨_, _, rfl, .inr hx.sq, k.newL mm r hr⟩
  | [.ref a], hr =>
    obtain ⟨v, rfl, r⟩ := repA1 rp
    cases r
    have hr : lstK (M.lookup a) (fun ys => Q (.lst ys) M) := hr
    unfold lstK at hr
    split at hr
    · rename_i ys e
      obtain ⟨ws, h1, h2⟩ := mm.get e
      exact ⟨_, _, rfl, .inl (.inl (.inl h1)), k.newL mm h2 hr⟩
    · exact hr.elim
def dTupC : RCD := fun xs M Q => match xs with
  | [.lst ys] => Q (.tup ys) M
  | [.tup ys] => Q (.tup ys) M
  | _ => False
@[simp ↓] theorem dTupC_eq : ∀ xs M Q, dTupC xs M Q = (match xs with
  | [.lst ys] => Q (.tup ys) M
  | [.tup ys] => Q (.tup ys) M
  | _ => False) := fun _ _ _ => rfl
theorem k_tuple : CallD X (.type "tuple") dTupC := by
  refine ⟨_, call_tuple_of, fun F H M vs xs Q QV mm rp hr k => ?_⟩
  match xs, hr with
  | [.lst ys], hr =>
    obtain ⟨v, rfl, r⟩ := repA1 rp
    cases r with
    | lst hx r => exact ⟨_, _, rfl, .inl ⟨hx.sq, k.newT mm r hr⟩⟩
  | [.tup ys], hr =>
    obtain ⟨v, rfl, r⟩ := repA1 rp
    cases r with
    | tup hx r => exact ⟨_, _, rfl, .inr ⟨hx.sq, k.at mm (.tup hx r) hr⟩⟩
@[simp] def boolsD : List D → Option (List Bool)
  | [] => some []
  | .bl b :: r => (boolsD r).map (b :: ·)
  | _ => none
theorem boolsD_map (bs : List Bool) : boolsD (bs.map D.bl) = some bs := by
  induction bs with
  | nil => rfl
  | cons b r ih => show (boolsD (r.map D.bl)).map (b :: ·) = _; rw [ih]; rfl
theorem RepA.bools {K : PySem.W.Frag} {B : List Addr} {H : Hp} : ∀ {vs : List V} {ds : List D} {bs : List Bool}, RepA K B H vs ds → boolsD ds = some bs → vs = bs.map V.bl
  | _, _, _, .nil, e => by cases e; rfl
  | _, _, _, @RepA.cons _ _ _ v vs d ds h r, e => by
    cases d with
    | bl b =>
      cases h
      simp only [boolsD, Option.map_eq_some_iff] at e
      obtain ⟨q, h1, rfl⟩ := e
      rw [RepA.bools r h1]
      rfl
    | _ => cases e
def dAllG (g : List Bool → Bool) : RCD := fun xs M Q => match xs with
  | [.lst ys] => optK (boolsD ys) fun bs => Q (.bl (g bs)) M
  | _ => False
@[simp ↓] theorem dAllG_eq (g : List Bool → Bool) : ∀ xs M Q, dAllG g xs M Q = (match xs with
  | [.lst ys] => optK (boolsD ys) fun bs => Q (.bl (g bs)) M
  | _ => False) := fun _ _ _ => rfl
theorem k_all (hc : X.calm = true) : CallD X (.builtin "all") (dAllG fun bs => bs.all id) := by
  refine ⟨_, cr_all hc, fun F H M vs xs Q QV mm rp hr k => ?_⟩
  match xs, hr with
  | [.lst ys], hr =>
    obtain ⟨v, rfl, r⟩ := repA1 rp
    have hr : optK (boolsD ys) (fun bs => Q (.bl (bs.all id)) M) := hr
    unfold optK at hr
    split at hr
    · rename_i bs e
      cases r with
      | lst hx r =>
        have e2 := r.bools e
        subst e2
        exact ⟨_, bs, rfl, hx.sq, k.at mm (.bl _) hr⟩
    · exact hr.elim
theorem k_any (hc : X.calm = true) : CallD X (.builtin "any") (dAllG fun bs => bs.any id) := by
  refine ⟨_, cr_any hc, fun F H M vs xs Q QV mm rp hr k => ?_⟩
  match xs, hr with
  | [.lst ys], hr =>
    obtain ⟨v, rfl, r⟩ := repA1 rp
    have hr : optK (boolsD ys) (fun bs => Q (.bl (bs.any id)) M) := hr
    unfold optK at hr
    split at hr
    · rename_i bs e
      cases r with
      | lst hx r =>
        have e2 := r.bools e
        subst e2
        exact ⟨_, bs, rfl, hx.sq, k.at mm (.bl _) hr⟩
    · exact hr.elim
end
end L2.Dl

namespace L2.Dl
open PySem PySem.Spec PyProof.Rows

/-! ### statements -/
structure EndsD where
  nx : SD → MM → Prop
  rt : QD
  bk : SD → MM → Prop := fun _ _ => False
  ct : SD → MM → Prop := fun _ _ => False
  xc : Str → List (Str × D) → SD → MM → Prop := fun _ _ _ _ => False
abbrev EndsD.xd (E : EndsD) (ds : SD) : XD := fun C fs M => E.xc C fs ds M
abbrev TSD := EndsD → SD → MM → Prop
structure Sts (K : PySem.W.Frag) (F : List Addr) (H : Hp) (σ : L2.St) (ds : SD) (M : MM) : Prop where
  mm : RMM K F H M
  sl : RSl K (ak F M) H σ ds
theorem Sts.to {K : PySem.W.Frag} {F : List Addr} {H H' : Hp} {σ : L2.St} {ds : SD} {M M' : MM} (h : Sts K F H σ ds M) (s : Stp H (keys M) H' (keys M')) (m : RMM K F H' M') : Sts K F H' σ ds M' := ⟨m, h.sl.step s.fix⟩
/-- what is wished of an error, with the slots -/
def KWS (K : PySem.W.Frag) (F : List Addr) (H : Hp) (M : MM) (zc : Str → List (Str × D) → SD → MM → Prop) (W : WX) : Prop := ∀ C fs vs d σ' ds' H' M', Stp H (keys M) H' (keys M') → Sts K F H' σ' ds' M' → H' d = some (.xd vs) → d ∉ ak F M' → RepF K (ak F M') H' Str vs fs → zc C fs ds' M' → W (.ref (He.ga K C)) (some d) σ' H'
theorem KWS.on {K : PySem.W.Frag} {F : List Addr} {H H1 : Hp} {M M1 : MM} {zc : Str → List (Str × D) → SD → MM → Prop} {W : WX} (k : KWS K F H M zc W) (s : Stp H (keys M) H1 (keys M1)) : KWS K F H1 M1 zc W := fun C fs vs d σ' ds' H' M' st tt e n r q => k C fs vs d σ' ds' H' M' (s.trans st) tt e n r q
theorem Sts.ex {K : PySem.W.Frag} {F : List Addr} {H : Hp} {σ : L2.St} {ds : SD} {M : MM} {E : EndsD} {W : WX} (h : Sts K F H σ ds M) (k : KWS K F H M E.xc W) : Stt K W F H σ ds M (E.xd ds) := ⟨h.mm, h.sl, fun C fs vs d H' M' st mm e n r q => k C fs vs d σ ds H' M' st (h.to st mm) e n r q⟩
theorem Stt.st {K : PySem.W.Frag} {W : WX} {F : List Addr} {H : Hp} {σ : L2.St} {ds : SD} {M : MM} {Z : XD} (h : Stt K W F H σ ds M Z) : Sts K F H σ ds M := ⟨h.mm, h.sl⟩
/-- what the slots and the heap are behind it -/
def KS (K : PySem.W.Frag) (F : List Addr) (H : Hp) (M : MM) (P : SD → MM → Prop) (PV : L2.St → Hp → Prop) : Prop := ∀ σ' H' ds' M', Stp H (keys M) H' (keys M') → Sts K F H' σ' ds' M' → P ds' M' → PV σ' H'
theorem KS.on {K : PySem.W.Frag} {F : List Addr} {H H1 : Hp} {M M1 : MM} {P : SD → MM → Prop} {PV : L2.St → Hp → Prop} (k : KS K F H M P PV) (s : Stp H (keys M) H1 (keys M1)) : KS K F H1 M1 P PV := fun σ' H' ds' M' st tt q => k σ' H' ds' M' (s.trans st) tt q
structure KE (K : PySem.W.Frag) (W : WX) (F : List Addr) (H : Hp) (M : MM) (E : EndsD) (D : Ends) : Prop where
  nx : KS K F H M E.nx D.nx
  rt : KQ K F H M E.rt D.rt
  bk : KS K F H M E.bk D.bk
  ct : KS K F H M E.ct D.ct
  xc : KWS K F H M E.xc W
theorem KE.on {K : PySem.W.Frag} {W : WX} {F : List Addr} {H H1 : Hp} {M M1 : MM} {E : EndsD} {D : Ends} (k : KE K W F H M E D) (s : Stp H (keys M) H1 (keys M1)) : KE K W F H1 M1 E D := ⟨k.nx.on s, k.rt.on s, k.bk.on s, k.ct.on s, k.xc.on s⟩
def ES (K : PySem.W.Frag) (F : List Addr) (H : Hp) (M : MM) (P : SD → MM → Prop) : L2.St → Hp → Prop := fun σ' H' => ∃ ds' M', Stp H (keys M) H' (keys M') ∧ Sts K F H' σ' ds' M' ∧ P ds' M'
theorem KS.es {K : PySem.W.Frag} {F : List Addr} {H : Hp} {M : MM} {P : SD → MM → Prop} : KS K F H M P (ES K F H M P) := fun _ _ ds' M' st tt q => ⟨ds', M', st, tt, q⟩
def EE (K : PySem.W.Frag) (F : List Addr) (H : Hp) (M : MM) (E : EndsD) : Ends := { nx := ES K F H M E.nx, rt := EQ K F H M E.rt, bk := ES K F H M E.bk, ct := ES K F H M E.ct }
theorem KE.ee {K : PySem.W.Frag} {W : WX} {F : List Addr} {H : Hp} {M : MM} {E : EndsD} (k : KWS K F H M E.xc W) : KE K W F H M E (EE K F H M E) := ⟨KS.es, KQ.eq, KS.es, KS.es, k⟩
def tsOf (K : PySem.W.Frag) (W : WX) (t : TSD) : TS := fun D σ H => ∃ F ds M E, Sts K F H σ ds M ∧ t E ds M ∧ KE K W F H M E D
def SPD (X : Cx) (F : List Addr) (pins : List (Addr × Obj)) (H : Hp) (M : MM) (E : EndsD) (f : Flow) (s' : Shared) : Prop := SP X pins (EE X.K F H M E) f s'
structure PSD (X : Cx) (st : Stmt) (t : TSD) : Prop where
  run : ∀ (W : WX), Takes X W → ∀ (F : List Addr) (pins : List (Addr × Obj)) (s : Shared) (σ : L2.St) (H : Hp) (ds : SD) (M : MM) (E : EndsD), Inv X pins σ H s → Sts X.K F H σ ds M → KWS X.K F H M E.xc W → t E ds M → wpAny (model X.prog X.w) X.A (exec st X.env) (SPD X F pins H M E) X.xe s
structure PSsD (X : Cx) (st : List Stmt) (t : TSD) : Prop where
  run : ∀ (W : WX), Takes X W → ∀ (F : List Addr) (pins : List (Addr × Obj)) (s : Shared) (σ : L2.St) (H : Hp) (ds : SD) (M : MM) (E : EndsD), Inv X pins σ H s → Sts X.K F H σ ds M → KWS X.K F H M E.xc W → t E ds M → wpAny (model X.prog X.w) X.A (execs st X.env) (SPD X F pins H M E) X.xe s
theorem SP.weak {X : Cx} {pins : List (Addr × Obj)} {K : PySem.W.Frag} {W : WX} {F : List Addr} {H : Hp} {M : MM} {E : EndsD} {D : Ends} {f : Flow} {s' : Shared} (k : KE K W F H M E D) (h : SP X pins (EE K F H M E) f s') : SP X pins D f s' := by
  cases f with
  | next => obtain ⟨σ', H', I, ds', M', st, tt, q⟩ := h; exact ⟨σ', H', I, k.nx σ' H' ds' M' st tt q⟩
  | brk => obtain ⟨σ', H', I, ds', M', st, tt, q⟩ := h; exact ⟨σ', H', I, k.bk σ' H' ds' M' st tt q⟩
  | cont => obtain ⟨σ', H', I, ds', M', st, tt, q⟩ := h; exact ⟨σ', H', I, k.ct σ' H' ds' M' st tt q⟩
  | ret u => obtain ⟨v, σ', H', I, r, d, M', st, mm, rp, q⟩ := h; exact ⟨v, σ', H', I, r, k.rt v H' d M' st mm rp q⟩
theorem PSD.ps {X : Cx} {W : WX} {st : Stmt} {t : TSD} (h : PSD X st t) (tk : Takes X W) : PS X st (tsOf X.K W t) := by
  refine ⟨fun pins s σ H D I hw => ?_⟩
  obtain ⟨F, ds, M, E, hs, ht, k⟩ := hw
  exact thn (h.run W tk F pins s σ H ds M E I hs k.xc ht) fun f s' q => SP.weak k q
theorem PSsD.ps {X : Cx} {W : WX} {st : List Stmt} {t : TSD} (h : PSsD X st t) (tk : Takes X W) : PSs X st (tsOf X.K W t) := by
  refine ⟨fun pins s σ H D I hw => ?_⟩
  obtain ⟨F, ds, M, E, hs, ht, k⟩ := hw
  exact thn (h.run W tk F pins s σ H ds M E I hs k.xc ht) fun f s' q => SP.weak k q
theorem PSD.of {X : Cx} {st : Stmt} {ts : WX → TS} {t : TSD} (h : ∀ W, Takes X W → PS X st (ts W)) (hi : ∀ W F σ H ds M E, Sts X.K F H σ ds M → KWS X.K F H M E.xc W → t E ds M → ts W (EE X.K F H M E) σ H) : PSD X st t := ⟨fun W tk F pins s σ H ds M E I hs kx ht => (h W tk).run pins s σ H _ I (hi W F σ H ds M E hs kx ht)⟩
theorem PSsD.of {X : Cx} {st : List Stmt} {ts : WX → TS} {t : TSD} (h : ∀ W, Takes X W → PSs X st (ts W)) (hi : ∀ W F σ H ds M E, Sts X.K F H σ ds M → KWS X.K F H M E.xc W → t E ds M → ts W (EE X.K F H M E) σ H) : PSsD X st t := ⟨fun W tk F pins s σ H ds M E I hs kx ht => (h W tk).run pins s σ H _ I (hi W F σ H ds M E hs kx ht)⟩

section
variable {X : Cx} {st : Stmt} {rest : List Stmt} {t u : TSD} {e : Expr} {te : TD} {pos : Pos}
def dNext : TSD := fun E ds M => E.nx ds M
@[simp ↓] theorem dNext_eq : ∀ E ds M, dNext E ds M = (E.nx ds M) := fun _ _ _ => rfl
/-- what follows is not looked into by itself -/
def cut (t : TSD) : TSD := t
theorem cut_eq (t : TSD) (E : EndsD) (ds : SD) (M : MM) : cut t E ds M = t E ds M := rfl
theorem cut_go {t : TSD} {E : EndsD} {ds : SD} {M : MM} (h : t E ds M) : cut t E ds M := h
def dSeq (t u : TSD) : TSD := fun E ds M => t { E with nx := cut u E } ds M
@[simp ↓] theorem dSeq_eq (t u : TSD) : ∀ E ds M, dSeq t u E ds M = (t { E with nx := cut u E } ds M) := fun _ _ _ => rfl
theorem s_nil : PSsD X [] dNext := PSsD.of (fun W tk => pss_nil) fun W F σ H ds M E hs kx ht => ⟨ds, M, .refl _ _, hs, ht⟩
theorem s_cons (h1 : PSD X st t) (h2 : PSsD X rest u) : PSsD X (st :: rest) (dSeq t u) := by
  refine PSsD.of (fun W tk => pss_cons (h1.ps tk) (h2.ps tk)) fun W F σ H ds M E hs kx ht => ?_
  refine ⟨F, ds, M, _, hs, ht, ⟨fun σ' H' ds' M' s1 tt q => ?_, KQ.eq, KS.es, KS.es, kx⟩⟩
  exact ⟨F, ds', M', E, tt, q, (KE.ee kx).on s1⟩
theorem s_one (h1 : PSD X st t) : PSsD X [st] t := PSsD.of (fun W tk => pss_one (h1.ps tk)) fun W F σ H ds M E hs kx ht => ⟨F, ds, M, E, hs, ht, KE.ee kx⟩
theorem s_pass : PSD X (.Pass pos) dNext := PSD.of (fun W tk => ps_pass) fun W F σ H ds M E hs kx ht => ⟨ds, M, .refl _ _, hs, ht⟩
def dBreak : TSD := fun E ds M => E.bk ds M
@[simp ↓] theorem dBreak_eq : ∀ E ds M, dBreak E ds M = (E.bk ds M) := fun _ _ _ => rfl
def dCont : TSD := fun E ds M => E.ct ds M
@[simp ↓] theorem dCont_eq : ∀ E ds M, dCont E ds M = (E.ct ds M) := fun _ _ _ => rfl
theorem s_break : PSD X (.Break pos) dBreak := PSD.of (fun W tk => ps_break) fun W F σ H ds M E hs kx ht => ⟨ds, M, .refl _ _, hs, ht⟩
theorem s_continue : PSD X (.Continue pos) dCont := PSD.of (fun W tk => ps_continue) fun W F σ H ds M E hs kx ht => ⟨ds, M, .refl _ _, hs, ht⟩
def dDrop (te : TD) : TSD := fun E ds M => te ds M (E.xd ds) fun _ M1 => E.nx ds M1
@[simp ↓] theorem dDrop_eq (te : TD) : ∀ E ds M, dDrop te E ds M = (te ds M (E.xd ds) fun _ M1 => E.nx ds M1) := fun _ _ _ => rfl
theorem s_expr (he : PD X e te) (hs : swapsWith e none pos.line X.env = pure false := by rfl) : PSD X (.Expr e pos) (dDrop te) :=
  PSD.of (fun W tk => ps_expr (he.pe tk) hs) fun W F σ H ds M E hs kx ht => ⟨F, ds, M, _, _, (hs.ex kx), ht, fun v H' d M' st mm rp q => ⟨ds, M', st, hs.to st mm, q⟩⟩
def dRet (te : TD) : TSD := fun E ds M => te ds M (E.xd ds) E.rt
@[simp ↓] theorem dRet_eq (te : TD) : ∀ E ds M, dRet te E ds M = (te ds M (E.xd ds) E.rt) := fun _ _ _ => rfl
theorem s_ret (he : PD X e te) : PSD X (.Return (some e) pos) (dRet te) := PSD.of (fun W tk => ps_ret (he.pe tk)) fun W F σ H ds M E hs kx ht => ⟨F, ds, M, _, _, (hs.ex kx), ht, KQ.eq⟩
def dRetN : TSD := fun E _ M => E.rt .non M
@[simp ↓] theorem dRetN_eq : ∀ E w1 M, dRetN E w1 M = (E.rt .non M) := fun _ _ _ => rfl
theorem s_retN : PSD X (.Return none pos) dRetN := PSD.of (fun W tk => ps_retN) fun W F σ H ds M E hs kx ht => KQ.eq.at hs.mm .non ht
def dIfS (c : TTD) (t u : TSD) : TSD := fun E ds M => c ds M (E.xd ds) fun b M1 => if b = true then t E ds M1 else u E ds M1
@[simp ↓] theorem dIfS_eq (c : TTD) (t u : TSD) : ∀ E ds M, dIfS c t u E ds M = (c ds M (E.xd ds) fun b M1 => if b = true then t E ds M1 else u E ds M1) := fun _ _ _ => rfl
theorem s_if {c : Expr} {a b : List Stmt} {tc : TTD} (hc : PTD X c tc) (ha : PSsD X a t) (hb : PSsD X b u) : PSD X (.If c a b pos) (dIfS tc t u) := by
  refine PSD.of (fun W tk => ps_if (hc.pt tk) (ha.ps tk) (hb.ps tk)) fun W F σ H ds M E hs kx ht => ?_
  refine ⟨F, ds, M, _, _, (hs.ex kx), ht, fun b H1 M1 st mm q => ?_⟩
  cases b with
  | true => exact iteT ⟨F, ds, M1, E, hs.to st mm, q, (KE.ee kx).on st⟩
  | false => exact iteF ⟨F, ds, M1, E, hs.to st mm, q, (KE.ee kx).on st⟩
def dNever : TSD := fun _ _ _ => False
theorem s_never : PSD X st dNever := ⟨fun _ _ _ _ _ _ _ _ _ _ _ _ _ h => h.elim⟩

/-! ### targets -/
theorem asg_cons {e : Expr} {es : List Expr} {env : Env} (h : notStar e = true) : assignEach (e :: es) env = (false, assign e env) :: assignEach es env := by
  cases e <;> first | (simp [notStar] at h; done) | simp [assignEach]
theorem asg_each {es : List Expr} {env : Env} (h : noStars es = true) : assignEach es env = es.map fun e => (false, assign e env) := by
  induction es with
  | nil => simp [assignEach]
  | cons e r ih =>
    have h := Bool.and_eq_true_iff.mp (show (notStar e && r.all notStar) = true from h)
    rw [asg_cons h.1, ih h.2]
    rfl
theorem asg_none {es : List Expr} {env : Env} : (es.map fun e => (false, assign e env)).findIdx? (·.1) = none := by
  rw [List.findIdx?_eq_none_iff]
  intro x hx
  obtain ⟨e, _, rfl⟩ := List.mem_map.mp hx
  rfl

inductive Tgt where
  | one (i : Nat) | tup (is : List Nat)
@[simp] def setAll : List Nat → List D → SD → SD
  | i :: is, x :: xs, ds => setAll is xs (ds.set i (some x))
  | _, _, ds => ds
@[simp] def setT (g : Tgt) (d : D) (ds : SD) : Option SD := match g with
  | .one i => some (ds.set i (some d))
  | .tup is => match d with
    | .tup xs => if xs.length = is.length then some (setAll is xs ds) else none
    | _ => none
def gNames : List Nat → TGs
  | [] => gNil
  | i :: is => gCons (gName i) (gNames is)
def tgV (K : PySem.W.Frag) : Tgt → TG
  | .one i => gName i
  | .tup is => gTup K is.length (gNames is)
def Tgt.slots : Tgt → List Nat
  | .one i => [i]
  | .tup is => is
theorem wipe_set {i : Nat} {v : Option V} {σ : L2.St} : ∀ {vs : List Nat}, i ∈ vs → wipe (σ.set i v) vs = wipe σ vs
  | [], h => nomatch h
  | w :: vs, h => by
    unfold wipe
    by_cases q : i ∈ vs
    · rw [wipe_set q]
    · have e : i = w := by
        rcases List.mem_cons.mp h with e | e
        · exact e
        · exact absurd e q
      subst e
      have hc : ∀ {us : List Nat}, i ∉ us → wipe (σ.set i v) us = (wipe σ us).set i v := by
        intro us
        induction us with
        | nil => intro _; rfl
        | cons u us ih =>
          intro hu
          unfold wipe
          rw [ih fun z => hu (List.mem_cons_of_mem _ z)]
          rw [List.set_comm]
          exact fun z => hu (by rw [z]; exact List.mem_cons_self)
      rw [hc q, List.set_set]
theorem wipe_none {i : Nat} : ∀ {vs : List Nat} {σ : L2.St}, i ∈ vs → (wipe σ vs).set i none = wipe σ vs
  | [], _, h => nomatch h
  | w :: vs, σ, h => by
    unfold wipe
    by_cases q : i = w
    · subst q; rw [List.set_set]
    · have hm : i ∈ vs := by
        rcases List.mem_cons.mp h with e | e
        · exact absurd e q
        · exact e
      rw [List.set_comm _ _ (Ne.symm q), wipe_none hm]
theorem wipe_wipe {σ : L2.St} : ∀ (us vs : List Nat), (∀ i ∈ us, i ∈ vs) → wipe (wipe σ vs) us = wipe σ vs
  | [], _, _ => rfl
  | u :: us, vs, h => by
    show (wipe (wipe σ vs) us).set u none = wipe σ vs
    rw [wipe_wipe us vs fun i hi => h i (List.mem_cons_of_mem _ hi), wipe_none (h u List.mem_cons_self)]
theorem names_ok {K : PySem.W.Frag} {B : List Addr} {H : Hp} {Q : L2.St → Hp → Prop} : ∀ {is : List Nat} {vs : List V} {xs : List D} {σ : L2.St} {ds : SD}, RepA K B H vs xs → xs.length = is.length → RSl K B H σ ds →
    (∀ σ', RSl K B H σ' (setAll is xs ds) → (∀ ws, (∀ i ∈ is, i ∈ ws) → wipe σ' ws = wipe σ ws) → Q σ' H) → gNames is vs σ H Q
  | [], vs, [], σ, ds, r, _, hs, k => by
    cases r
    exact ⟨rfl, k σ hs fun _ _ => rfl⟩
  | i :: is, _, x :: xs, σ, ds, r, hl, hs, k => by
    cases r with
    | cons h r =>
      refine ⟨_, _, rfl, ?_⟩
      refine names_ok r (Nat.succ.inj hl) (hs.put h) fun σ' h' hw => k σ' h' fun ws hh => ?_
      rw [hw ws fun j hj => hh j (List.mem_cons_of_mem _ hj), wipe_set (hh i List.mem_cons_self)]
theorem tg_ok {K : PySem.W.Frag} {B : List Addr} {H : Hp} {Q : L2.St → Hp → Prop} {g : Tgt} {v : V} {d : D} {σ : L2.St} {ds ds' : SD} (r : Rep K B H v d) (e : setT g d ds = some ds') (hs : RSl K B H σ ds)
    (k : ∀ σ', RSl K B H σ' ds' → (∀ ws, (∀ i ∈ g.slots, i ∈ ws) → wipe σ' ws = wipe σ ws) → Q σ' H) : tgV K g v σ H Q := by
  cases g with
  | one i =>
    cases e
    exact k _ (hs.put r) fun ws h => wipe_set (h i List.mem_cons_self)
  | tup is =>
    cases d with
    | tup xs =>
      simp only [setT] at e
      split at e
      · rename_i hl
        cases e
        cases r with
        | tup hx r => exact ⟨_, _, rfl, hx.sq, by rw [r.len]; exact hl, names_ok r hl hs k⟩
      · cases e
    | _ => cases e
abbrev PGT (X : Cx) (tg : Expr) (g : Tgt) : Prop := PG X tg (tgV X.K g)
theorem g_one {i : Nat} {x : Str} (hN : X.N.Nodup) (hi : X.N[i]? = some x) (hx : Loc X.env.scope x) (hf : X.fn x = true ∨ X.env.scope.names.lookup x = some .local := by first | exact .inl rfl | exact .inr rfl | assumption) : PGT X (.Name x pos) (.one i) := pg_name hN hi hx hf
theorem g_tup {es : List Expr} {k : Nat} {is : List Nat} (hc : X.calm = true) (h : PGs X es (gNames is)) (hn : es.length = is.length := by rfl) (hst : noStars es = true := by rfl) : PGT X (.Tuple es k pos) (.tup is) := pg_tup hc h (by rw [asg_each hst]; simpa using hn) (by rw [asg_each hst]; exact asg_none)
theorem gs_nil : PGs X [] (gNames []) := pgs_nil
theorem gs_cons {e : Expr} {es : List Expr} {i : Nat} {is : List Nat} (h1 : PGT X e (.one i)) (h2 : PGs X es (gNames is)) (hs : notStar e = true := by rfl) : PGs X (e :: es) (gNames (i :: is)) := pgs_cons h1 h2 (by rw [asg_cons hs]; rfl)
/-- target = value -/
def dAsg (te : TD) (g : Tgt) : TSD := fun E ds M => te ds M (E.xd ds) fun d M1 => optK (setT g d ds) fun ds' => E.nx ds' M1
@[simp ↓] theorem dAsg_eq (te : TD) (g : Tgt) : ∀ E ds M, dAsg te g E ds M = (te ds M (E.xd ds) fun d M1 => optK (setT g d ds) fun ds' => E.nx ds' M1) := fun _ _ _ => rfl
theorem asg_ok {W : WX} {F : List Addr} {σ : L2.St} {H : Hp} {ds : SD} {M : MM} {E : EndsD} {g : Tgt} (hs : Sts X.K F H σ ds M) (kx : KWS X.K F H M E.xc W) (ht : dAsg te g E ds M) : tAsg (teOf X.K W te) (tgV X.K g) (EE X.K F H M E) σ H := by
  refine ⟨F, ds, M, _, _, (hs.ex kx), ht, fun v H1 d M1 st mm rp q => ?_⟩
  unfold optK at q
  split at q
  · rename_i ds' e
    exact tg_ok rp e (hs.to st mm).sl fun σ' h' _ => ⟨ds', M1, st, ⟨mm, h'⟩, q⟩
  · exact q.elim
theorem s_asg {tg e : Expr} {g : Tgt} (he : PD X e te) (hg : PGT X tg g) (hs : swapsWithSole [tg] e pos.line X.env = pure false := by rfl) (hw : swappedStores [tg] e X.env = pure none := by rfl)
    (h1 : notStar tg = true := by rfl) : PSD X (.Assign [tg] e pos) (dAsg te g) := PSD.of (fun W tk => ps_asg (he.pe tk) hg hs hw (by rw [asg_cons h1]; simp [assignEach])) fun W F σ H ds M E hs kx ht => asg_ok hs kx ht
/-- name = value -/
def dSet (te : TD) (i : Nat) : TSD := fun E ds M => te ds M (E.xd ds) fun d M1 => letK (ds.set i (some d)) fun ds' => E.nx ds' M1
@[simp ↓] theorem dSet_eq (te : TD) (i : Nat) : ∀ E ds M, dSet te i E ds M = (te ds M (E.xd ds) fun d M1 => letK (ds.set i (some d)) fun ds' => E.nx ds' M1) := fun _ _ _ => rfl
theorem s_set {i : Nat} {x : Str} {e : Expr} {pos' : Pos} (hN : X.N.Nodup) (hi : X.N[i]? = some x) (hx : Loc X.env.scope x) (he : PD X e te) (hs : swapsWith e (some (.Name x pos')) pos.line X.env = pure false := by rfl) (hf : X.fn x = true ∨ X.env.scope.names.lookup x = some .local := by first | exact .inl rfl | exact .inr rfl | assumption) :
    PSD X (.Assign [.Name x pos'] e pos) (dSet te i) := PSD.of (fun W tk => ps_set hN hi hx (he.pe tk) hs hf) fun W F σ H ds M E hs kx ht => ⟨F, ds, M, _, _, (hs.ex kx), ht, fun v H1 d M1 st mm rp q => ⟨_, M1, st, ⟨mm, (hs.to st mm).sl.put rp⟩, q⟩⟩
/-- a, b = x, y (plain locals) -/
def dPar (i j : Nat) (ta : TAD) : TSD := fun E ds M => ta ds M (E.xd ds) fun xs M1 => match xs with | [x, y] => letK ((ds.set i (some x)).set j (some y)) (fun ds' => E.nx ds' M1) | _ => False
@[simp ↓] theorem dPar_eq (i j : Nat) (ta : TAD) : ∀ E ds M, dPar i j ta E ds M = (ta ds M (E.xd ds) fun xs M1 => match xs with | [x, y] => letK ((ds.set i (some x)).set j (some y)) (fun ds' => E.nx ds' M1) | _ => False) := fun _ _ _ => rfl
theorem s_par {i j : Nat} {x y : Str} {a b : Expr} {ta : TAD} {px py pt : Pos} {kt k2 pt2} (hc : X.calm = true) (hN : X.N.Nodup) (hi : X.N[i]? = some x) (hj : X.N[j]? = some y) (hij : i ≠ j)
    (hx : X.env.scope.names.lookup x = some .local) (hy : X.env.scope.names.lookup y = some .local) (ha : PAD X [a, b] ta)
    (hw : swappedStores [.Tuple [.Name x px, .Name y py] kt pt] (.Tuple [a, b] k2 pt2) X.env = pure (some [x, y]))
    (hs : swapsWithSole [.Tuple [.Name x px, .Name y py] kt pt] (.Tuple [a, b] k2 pt2) pos.line X.env = pure false := by rfl) :
    PSD X (.Assign [.Tuple [.Name x px, .Name y py] kt pt] (.Tuple [a, b] k2 pt2) pos) (dPar i j ta) := by
  refine PSD.of (fun W tk => ps_par hc hN hi hj hij hx hy (ha.pa tk) hw hs) fun W F σ H ds M E hst kx ht => ?_
  refine ⟨F, ds, M, _, _, (hst.ex kx), ht, fun vs H1 xs M1 st mm rp q => ?_⟩
  match xs, q with
  | [x, y], q =>
    obtain ⟨v, w, rfl, r1, r2⟩ := repA2 rp
    exact ⟨v, w, rfl, _, M1, st, ⟨mm, ((hst.to st mm).sl.put r1).put r2⟩, q⟩
/-- xs[i] = e, xs a list that may change -/
def dSetIx (to ti te : TD) : TSD := fun E ds M => te ds M (E.xd ds) fun d M1 => to ds M1 (E.xd ds) fun o M2 => ti ds M2 (E.xd ds) fun i M3 => match o, i with
  | .ref a, .int i => lstK (M3.lookup a) fun xs => optK (ixN xs.length i) fun j => letK (put M3 a (.lst (xs.set j d))) fun M' => E.nx ds M'
  | _, _ => False
@[simp ↓] theorem dSetIx_eq (to ti te : TD) : ∀ E ds M, dSetIx to ti te E ds M = (te ds M (E.xd ds) fun d M1 => to ds M1 (E.xd ds) fun o M2 => ti ds M2 (E.xd ds) fun i M3 => match o, i with
  | .ref a, .int i => lstK (M3.lookup a) fun xs => optK (ixN xs.length i) fun j => letK (put M3 a (.lst (xs.set j d))) fun M' => E.nx ds M'
  | _, _ => False) := fun _ _ _ => rfl
theorem s_setIx {o i e : Expr} {to ti : TD} {pos' : Pos} (he : PD X e te) (ho : PD X o to) (hi : PD X i ti)
    (ha : ∀ v, assign (.Subscript o i pos') X.env v = (do
      let ov ← holding [v] (eval o X.env)
      let iv ← holding [v, ov] (eval i X.env)
      standAt pos'
      holding [v, ov, iv] (setItem ov iv v)
      release [v, ov, iv] []) := by intro _; rfl)
    (hs : swapsWithSole [.Subscript o i pos'] e pos.line X.env = pure false := by rfl) (hw : swappedStores [.Subscript o i pos'] e X.env = pure none := by rfl) : PSD X (.Assign [.Subscript o i pos'] e pos) (dSetIx to ti te) := by
  have h1 : (assignEach [.Subscript o i pos'] X.env).map (·.2) = [assign (.Subscript o i pos') X.env] := by simp [assignEach]
  refine PSD.of (fun W tk => ps_asg (he.pe tk) (pg_sub (ho.pe tk) (hi.pe tk) set_list ha) hs hw h1) fun W F σ H ds M E hst kx ht => ?_
  refine ⟨F, ds, M, _, _, (hst.ex kx), ht, fun v H1 d M1 st mm rp q => ?_⟩
  refine ⟨F, ds, M1, _, _, ((hst.ex kx).to st mm), q, fun ov H2 od M2 st2 mm2 rp2 q2 => ?_⟩
  refine ⟨F, ds, M2, _, _, ((hst.ex kx).to (st.trans st2) mm2), q2, fun iv H3 id M3 st3 mm3 rp3 q3 => ?_⟩
  have s123 := (st.trans st2).trans st3
  have rd := (rp.step st2.fix).step st3.fix
  match od, id, q3 with
  | .ref a, .int i, q3 =>
    cases rp2
    cases rp3
    have q3 : lstK (M3.lookup a) (fun xs => optK (ixN xs.length i) fun j => E.nx ds (put M3 a (.lst (xs.set j d)))) := q3
    unfold lstK optK at q3
    split at q3
    · rename_i xs e1
      obtain ⟨vs, h1, h2⟩ := mm3.get e1
      split at q3
      · rename_i j e2
        have hk := lookup_key e1
        have hr : RepO X.K (ak F M3) (upd H3 a (.lst (vs.set j v))) a (.lst (xs.set j d)) := RMM.putL hk (h2.set rd j)
        refine ⟨a, vs, i, j, rfl, rfl, h1, by rw [h2.len]; exact e2, ds, put M3 a (.lst (xs.set j d)), ?_, ⟨mm3.put hk hr, ?_⟩, q3⟩
        · rw [keys_put]; exact s123.trans (stp_put hk)
        · unfold ak; rw [keys_put]; exact (hst.to s123 mm3).sl.step (stp_put hk).fix
      · exact q3.elim
    · exact q3.elim
end
end L2.Dl

namespace L2.Dl
open PySem PySem.Spec PyProof.Rows RZ

/-! ### what is walked -/
/-- from H1, M1 on it gives the items, as long as nothing that stands still is changed -/
structure WalkD (K : PySem.W.Frag) (F : List Addr) (J : It) (H1 : Hp) (M1 : MM) (items : List D) : Prop where
  go : ∀ F' i H B, i < items.length → Fix H1 (ak F M1) H (B ++ F') → J.go i H
  stop : ∀ F' H B, Fix H1 (ak F M1) H (B ++ F') → J.stop items.length H
  yld : ∀ F' i H M x H', i < items.length → Fix H1 (ak F M1) H (ak F' M) → RMM K F' H M → J.yld i H x H' → Stp H (keys M) H' (keys M) ∧ RMM K F' H' M ∧ ∃ d, items[i]? = some d ∧ Rep K (ak F' M) H' x d
abbrev TID := SD → MM → XD → (List D → MM → Prop) → Prop
structure PID (X : Cx) (tg iter : Expr) (ti : TID) : Prop where
  run : ∀ W, Takes X W → ∃ wi, PI X tg iter wi ∧ ∀ F σ H ds M Z QI, Stt X.K W F H σ ds M Z → ti ds M Z QI → ∀ RV : It → Hp → Prop, (∀ J H1 items M1, Stp H (keys M) H1 (keys M1) → RMM X.K F H1 M1 → WalkD X.K F J H1 M1 items → QI items M1 → RV J H1) → wi σ H RV
theorem walkd_list {K : PySem.W.Frag} {F : List Addr} {H : Hp} {M : MM} {a : Addr} {vs : List V} {xs : List D} (h : BL (ak F M) H a vs) (r : RepA K (ak F M) H vs xs) : WalkD K F (Itl K a) H M xs := by
  refine ⟨fun F' i H' B hi s => ?_, fun F' H' B s => ?_, fun F' i H' M' x H2 hi s mm y => ?_⟩
  · have h' := s.bl h
    have hv : i < vs.length := by rw [r.len]; exact hi
    exact ⟨vs, vs[i], h'.sq, by simp [hv]⟩
  · exact ⟨vs, (s.bl h).sq, by rw [r.len]; exact Nat.le_refl _⟩
  · obtain ⟨e, y⟩ := y
    subst e
    obtain ⟨d, h1, h2⟩ := r.getV (y vs (s.bl h).sq)
    exact ⟨.refl _ _, mm, d, h1, h2.step s⟩
theorem walkd_tup {K : PySem.W.Frag} {F : List Addr} {H : Hp} {M : MM} {a : Addr} {vs : List V} {xs : List D} (h : BT K (ak F M) H a vs) (r : RepA K (ak F M) H vs xs) : WalkD K F (Itt K a) H M xs := by
  refine ⟨fun F' i H' B hi s => ?_, fun F' H' B s => ?_, fun F' i H' M' x H2 hi s mm y => ?_⟩
  · have h' := s.bt h
    have hv : i < vs.length := by rw [r.len]; exact hi
    exact ⟨vs, vs[i], h'.sq, by simp [hv]⟩
  · exact ⟨vs, (s.bt h).sq, by rw [r.len]; exact Nat.le_refl _⟩
  · obtain ⟨e, y⟩ := y
    subst e
    obtain ⟨d, h1, h2⟩ := r.getV (y vs (s.bt h).sq)
    exact ⟨.refl _ _, mm, d, h1, h2.step s⟩
def signs (z : Str) : List D := z.cps.toList.map fun c => .str ⟨#[c]⟩
theorem walkd_str {K : PySem.W.Frag} {F : List Addr} {H : Hp} {M : MM} (z : Str) (hz : PyData.strOk z = true) : WalkD K F (Its z) H M (signs z) := by
  have hl : (signs z).length = z.cps.size := by unfold signs; simp
  refine ⟨fun F' i H' B hi s => ?_, fun F' H' B s => ?_, fun F' i H' M' x H2 hi s mm y => ?_⟩
  · show i < z.cps.size; omega
  · show z.cps.size ≤ (signs z).length; omega
  · obtain ⟨e, c, h1, h2⟩ := y
    subst e h2
    exact ⟨.refl _ _, mm, .str ⟨#[c]⟩, by unfold signs; simp [h1], .str _ (okS_one hz (List.mem_of_getElem? (by simpa using h1)))⟩
def ranged (lo : Int) (n : Nat) : List D := (List.range n).map fun (i : Nat) => D.int (lo + i)
theorem ranged_len (lo : Int) (n : Nat) : (ranged lo n).length = n := by unfold ranged; simp
theorem ranged_get {lo : Int} {n i : Nat} (h : i < n) : (ranged lo n)[i]? = some (.int (lo + i)) := by unfold ranged; simp [h]
theorem walkd_range {K : PySem.W.Frag} {F : List Addr} {H : Hp} {M : MM} (lo : Int) (n : Nat) : WalkD K F (Itr lo n) H M (ranged lo n) := by
  refine ⟨fun F' i H' B hi s => ?_, fun F' H' B s => ?_, fun F' i H' M' x H2 hi s mm y => ?_⟩
  · rw [ranged_len] at hi; exact hi
  · show n ≤ (ranged lo n).length; rw [ranged_len]; exact Nat.le_refl _
  · rw [ranged_len] at hi
    obtain ⟨e, y⟩ := y
    subst e y
    exact ⟨.refl _ _, mm, _, ranged_get hi, .int _⟩
def enumd : Nat → List D → List D
  | _, [] => []
  | k, x :: xs => .tup [.int k, x] :: enumd (k + 1) xs
theorem enumd_len : ∀ (k : Nat) (xs : List D), (enumd k xs).length = xs.length
  | _, [] => rfl
  | k, x :: xs => by show (enumd (k + 1) xs).length + 1 = xs.length + 1; rw [enumd_len]
theorem enumd_get : ∀ {k i : Nat} {xs : List D} {d : D}, xs[i]? = some d → (enumd k xs)[i]? = some (.tup [.int ((k + i : Nat) : Int), d])
  | _, _, [], _, h => by simp at h
  | k, 0, x :: xs, d, h => by simp at h; subst h; rfl
  | k, i + 1, x :: xs, d, h => by
    show (enumd (k + 1) xs)[i]? = _
    rw [enumd_get (k := k + 1) (i := i) (xs := xs) (d := d) (by simpa using h)]
    rw [show k + 1 + i = k + (i + 1) by omega]
theorem pair_new {K : PySem.W.Frag} {F : List Addr} {H : Hp} {M : MM} {T : Addr} {x y : V} {dx dy : D} (mm : RMM K F H M) (hT : H T = none) (rx : Rep K (ak F M) H x dx) (ry : Rep K (ak F M) H y dy) : Stp H (keys M) (upd H T (.tup [x, y])) (keys M) ∧ RMM K F (upd H T (.tup [x, y])) M ∧ Rep K (ak F M) (upd H T (.tup [x, y])) (.ref T) (.tup [dx, dy]) :=
  ⟨stp_new hT, mm.new hT, mm.newT hT (.cons rx (.cons ry .nil))⟩
theorem walkd_enum {K : PySem.W.Frag} {F : List Addr} {H : Hp} {M : MM} {a : Addr} {vs : List V} {xs : List D} (h : BL (ak F M) H a vs) (r : RepA K (ak F M) H vs xs) : WalkD K F (Ite K a) H M (enumd 0 xs) := by
  refine ⟨fun F' i H' B hi s => ?_, fun F' H' B s => ?_, fun F' i H' M' x H2 hi s mm y => ?_⟩
  · rw [enumd_len] at hi
    have h' := s.bl h
    have hv : i < vs.length := by rw [r.len]; exact hi
    exact ⟨vs, vs[i], h'.sq, by simp [hv]⟩
  · exact ⟨vs, (s.bl h).sq, by rw [r.len, enumd_len]; exact Nat.le_refl _⟩
  · obtain ⟨T, x, rfl, hT, rfl, y⟩ := y
    obtain ⟨d, h1, h2⟩ := r.getV (y vs (s.bl h).sq)
    obtain ⟨s1, s2, s3⟩ := pair_new mm hT (.int (i : Nat)) (h2.step s)
    refine ⟨s1, s2, _, enumd_get (k := 0) h1, ?_⟩
    rw [Nat.zero_add]
    exact s3
def zipd : List D → List D → List D
  | x :: xs, y :: ys => .tup [x, y] :: zipd xs ys
  | _, _ => []
theorem zipd_len : ∀ (xs ys : List D), (zipd xs ys).length = min xs.length ys.length
  | [], ys => by simp [zipd]
  | x :: xs, [] => by simp [zipd]
  | x :: xs, y :: ys => by simp only [zipd, List.length_cons]; rw [zipd_len]; omega
theorem zipd_get : ∀ {i : Nat} {xs ys : List D} {d e : D}, xs[i]? = some d → ys[i]? = some e → (zipd xs ys)[i]? = some (.tup [d, e])
  | _, [], _, _, _, h, _ => by simp at h
  | _, x :: xs, [], _, _, _, h => by simp at h
  | 0, x :: xs, y :: ys, d, e, h, h' => by simp at h h'; subst h h'; rfl
  | i + 1, x :: xs, y :: ys, d, e, h, h' => by
    show (zipd xs ys)[i]? = _
    exact zipd_get (by simpa using h) (by simpa using h')
theorem walkd_zip {K : PySem.W.Frag} {F : List Addr} {H : Hp} {M : MM} {a b : Addr} {vs ws : List V} {xs ys : List D} (h : BL (ak F M) H a vs) (r : RepA K (ak F M) H vs xs) (h2 : BL (ak F M) H b ws) (r2 : RepA K (ak F M) H ws ys) : WalkD K F (Itz K a b) H M (zipd xs ys) := by
  refine ⟨fun F' i H' B hi s => ?_, fun F' H' B s => ?_, fun F' i H' M' x H2 hi s mm y => ?_⟩
  · rw [zipd_len] at hi
    have hv : i < vs.length := by rw [r.len]; omega
    have hw : i < ws.length := by rw [r2.len]; omega
    exact ⟨vs, ws, vs[i], ws[i], (s.bl h).sq, (s.bl h2).sq, by simp [hv], by simp [hw]⟩
  · refine ⟨vs, ws, (s.bl h).sq, (s.bl h2).sq, ?_⟩
    rw [r.len, r2.len, zipd_len]
    omega
  · obtain ⟨T, x, z, rfl, hT, rfl, y1, y2⟩ := y
    obtain ⟨d, h3, h4⟩ := r.getV (y1 vs (s.bl h).sq)
    obtain ⟨e, h5, h6⟩ := r2.getV (y2 ws (s.bl h2).sq)
    obtain ⟨s1, s2, s3⟩ := pair_new mm hT (h4.step s) (h6.step s)
    exact ⟨s1, s2, _, zipd_get h3 h5, s3⟩
theorem walkd_zipT {K : PySem.W.Frag} {F : List Addr} {H : Hp} {M : MM} {a b : Addr} {vs ws : List V} {xs ys : List D} (h : BT K (ak F M) H a vs) (r : RepA K (ak F M) H vs xs) (h2 : BT K (ak F M) H b ws) (r2 : RepA K (ak F M) H ws ys) : WalkD K F (ItzT K a b) H M (zipd xs ys) := by
  refine ⟨fun F' i H' B hi s => ?_, fun F' H' B s => ?_, fun F' i H' M' x H2 hi s mm y => ?_⟩
  · rw [zipd_len] at hi
    have hv : i < vs.length := by rw [r.len]; omega
    have hw : i < ws.length := by rw [r2.len]; omega
    exact ⟨vs, ws, vs[i], ws[i], (s.bt h).sq, (s.bt h2).sq, by simp [hv], by simp [hw]⟩
  · refine ⟨vs, ws, (s.bt h).sq, (s.bt h2).sq, ?_⟩
    rw [r.len, r2.len, zipd_len]
    omega
  · obtain ⟨T, x, z, rfl, hT, rfl, y1, y2⟩ := y
    obtain ⟨d, h3, h4⟩ := r.getV (y1 vs (s.bt h).sq)
    obtain ⟨e, h5, h6⟩ := r2.getV (y2 ws (s.bt h2).sq)
    obtain ⟨s1, s2, s3⟩ := pair_new mm hT (h4.step s) (h6.step s)
    exact ⟨s1, s2, _, zipd_get h3 h5, s3⟩

section
variable {X : Cx} {tg e e2 : Expr} {te : TD} {pos : Pos}
/-- a list, a tuple, a text: which of them is told by the rule -/
def iL (t : TD) : TID := fun ds M Z Q => t ds M Z fun x M1 => match x with | .lst xs => Q xs M1 | _ => False
@[simp ↓] theorem iL_eq (t : TD) : ∀ ds M Z Q, iL t ds M Z Q = (t ds M Z fun x M1 => match x with | .lst xs => Q xs M1 | _ => False) := fun _ _ _ _ => rfl
def iT (t : TD) : TID := fun ds M Z Q => t ds M Z fun x M1 => match x with | .tup xs => Q xs M1 | _ => False
@[simp ↓] theorem iT_eq (t : TD) : ∀ ds M Z Q, iT t ds M Z Q = (t ds M Z fun x M1 => match x with | .tup xs => Q xs M1 | _ => False) := fun _ _ _ _ => rfl
def iS (t : TD) : TID := fun ds M Z Q => t ds M Z fun x M1 => match x with | .str z => Q (signs z) M1 | _ => False
@[simp ↓] theorem iS_eq (t : TD) : ∀ ds M Z Q, iS t ds M Z Q = (t ds M Z fun x M1 => match x with | .str z => Q (signs z) M1 | _ => False) := fun _ _ _ _ => rfl
theorem i_list (h : PD X e te) : PID X tg e (iL te) := by
  refine ⟨fun W tk => ?_⟩
  refine ⟨_, pi_list (h.pe tk), fun F σ H ds M Z QI hs ht RV k => ?_⟩
  refine ⟨F, ds, M, _, _, hs, ht, fun v H1 d M1 st mm rp q => ?_⟩
  cases d with
  | lst xs =>
    cases rp with
    | lst hx r => exact ⟨_, rfl, ⟨_, hx.sq⟩, k _ H1 xs M1 st mm (walkd_list hx r) q⟩
  | _ => exact (show False from q).elim
theorem i_tup (h : PD X e te) : PID X tg e (iT te) := by
  refine ⟨fun W tk => ?_⟩
  refine ⟨_, pi_tup (h.pe tk), fun F σ H ds M Z QI hs ht RV k => ?_⟩
  refine ⟨F, ds, M, _, _, hs, ht, fun v H1 d M1 st mm rp q => ?_⟩
  cases d with
  | tup xs =>
    cases rp with
    | tup hx r => exact ⟨_, rfl, ⟨_, hx.sq⟩, k _ H1 xs M1 st mm (walkd_tup hx r) q⟩
  | _ => exact (show False from q).elim
theorem i_str (h : PD X e te) : PID X tg e (iS te) := by
  refine ⟨fun W tk => ?_⟩
  refine ⟨_, pi_str (h.pe tk), fun F σ H ds M Z QI hs ht RV k => ?_⟩
  refine ⟨F, ds, M, _, _, hs, ht, fun v H1 d M1 st mm rp q => ?_⟩
  cases d with
  | str z => cases rp with | str _ hz => exact ⟨z, rfl, k _ H1 _ M1 st mm (walkd_str z hz) q⟩
  | _ => exact (show False from q).elim
def iR1 (t : TD) : TID := fun ds M Z Q => dCons t dNil ds M Z fun xs M1 => match xs with | [.int j] => -(2 ^ 62) ≤ j ∧ j < 2 ^ 62 ∧ Q (ranged 0 j.toNat) M1 | _ => False
@[simp ↓] theorem iR1_eq (t : TD) : ∀ ds M Z Q, iR1 t ds M Z Q = (dCons t dNil ds M Z fun xs M1 => match xs with | [.int j] => -(2 ^ 62) ≤ j ∧ j < 2 ^ 62 ∧ Q (ranged 0 j.toNat) M1 | _ => False) := fun _ _ _ _ => rfl
theorem i_range1 {p : Pos} (hm : X.mg "range" = none) (h : PD X e te) (hg : Gl X "range" := by rfl) (hs : notStar e = true := by rfl) : PID X tg (.Call (.Name "range" p) [e] [] pos) (iR1 te) := by
  refine ⟨fun W tk => ?_⟩
  refine ⟨_, pi_range1 hg hm ((ad_cons h ad_nil hs).pa tk) (star_one hs), fun F σ H ds M Z QI hst ht RV k => ?_⟩
  refine ⟨F, ds, M, _, _, hst, ht, fun vs H1 xs M1 st mm rp q => ?_⟩
  match xs, rp, q with
  | [.int j], rp, q =>
    obtain ⟨v, rfl, r⟩ := repA1 rp
    cases r
    exact ⟨j, rfl, q.1, q.2.1, k _ H1 _ M1 st mm (walkd_range 0 j.toNat) q.2.2⟩
def iR2 (t u : TD) : TID := fun ds M Z Q => dCons t (dCons u dNil) ds M Z fun xs M2 => match xs with | [.int i, .int j] => (-(2 ^ 62) ≤ i ∧ i < 2 ^ 62 ∧ -(2 ^ 62) ≤ j ∧ j < 2 ^ 62) ∧ Q (ranged i (j - i).toNat) M2 | _ => False
@[simp ↓] theorem iR2_eq (t u : TD) : ∀ ds M Z Q, iR2 t u ds M Z Q = (dCons t (dCons u dNil) ds M Z fun xs M2 => match xs with | [.int i, .int j] => (-(2 ^ 62) ≤ i ∧ i < 2 ^ 62 ∧ -(2 ^ 62) ≤ j ∧ j < 2 ^ 62) ∧ Q (ranged i (j - i).toNat) M2 | _ => False) := fun _ _ _ _ => rfl
theorem i_range2 {p : Pos} {te2 : TD} (hm : X.mg "range" = none) (h : PD X e te) (h2 : PD X e2 te2) (hg : Gl X "range" := by rfl) (hs : notStar e = true := by rfl) (hs2 : notStar e2 = true := by rfl) : PID X tg (.Call (.Name "range" p) [e, e2] [] pos) (iR2 te te2) := by
  refine ⟨fun W tk => ?_⟩
  refine ⟨_, pi_range2 hg hm ((ad_cons h (ad_cons h2 ad_nil hs2) hs).pa tk) (by rw [star_cons hs, star_one hs2]) (star_one hs2), fun F σ H ds M Z QI hst ht RV k => ?_⟩
  refine ⟨F, ds, M, _, _, hst, ht, fun vs H1 xs M1 st mm rp q => ?_⟩
  match xs, rp, q with
  | [.int i, .int j], rp, q =>
    obtain ⟨v, w, rfl, r1, r2⟩ := repA2 rp
    cases r1
    cases r2
    exact ⟨i, j, rfl, q.1, k _ H1 _ M1 st mm (walkd_range i (j - i).toNat) q.2⟩
def iEnumD (t : TD) : TID := fun ds M Z Q => dCons t dNil ds M Z fun zs M1 => match zs with | [.lst xs] => Q (enumd 0 xs) M1 | _ => False
@[simp ↓] theorem iEnumD_eq (t : TD) : ∀ ds M Z Q, iEnumD t ds M Z Q = (dCons t dNil ds M Z fun zs M1 => match zs with | [.lst xs] => Q (enumd 0 xs) M1 | _ => False) := fun _ _ _ _ => rfl
theorem i_enum {p tpos : Pos} {elts : List Expr} {kk : Nat} (hm : X.mg "enumerate" = none) (h : PD X e te) (hg : Gl X "enumerate" := by rfl) (hs : notStar e = true := by rfl) : PID X (.Tuple elts kk tpos) (.Call (.Name "enumerate" p) [e] [] pos) (iEnumD te) := by
  refine ⟨fun W tk => ?_⟩
  refine ⟨_, pi_enum hg hm ((ad_cons h ad_nil hs).pa tk) (star_one hs), fun F σ H ds M Z QI hst ht RV k => ?_⟩
  refine ⟨F, ds, M, _, _, hst, ht, fun vs H1 xs M1 st mm rp q => ?_⟩
  match xs, rp, q with
  | [.lst ys], rp, q =>
    obtain ⟨v, rfl, r⟩ := repA1 rp
    cases r with
    | lst hx r => exact ⟨_, _, rfl, hx.sq, k _ H1 _ M1 st mm (walkd_enum hx r) q⟩
def iZipD (t u : TD) : TID := fun ds M Z Q => dCons t (dCons u dNil) ds M Z fun zs M2 => match zs with | [.lst xs, .lst ys] => Q (zipd xs ys) M2 | [.tup xs, .tup ys] => Q (zipd xs ys) M2 | _ => False
@[simp ↓] theorem iZipD_eq (t u : TD) : ∀ ds M Z Q, iZipD t u ds M Z Q = (dCons t (dCons u dNil) ds M Z fun zs M2 => match zs with | [.lst xs, .lst ys] => Q (zipd xs ys) M2 | [.tup xs, .tup ys] => Q (zipd xs ys) M2 | _ => False) := fun _ _ _ _ => rfl
theorem i_zip {p tpos : Pos} {elts : List Expr} {kk : Nat} {te2 : TD} (hm : X.mg "zip" = none) (h : PD X e te) (h2 : PD X e2 te2) (hg : Gl X "zip" := by rfl) (hs : notStar e = true := by rfl) (hs2 : notStar e2 = true := by rfl) : PID X (.Tuple elts kk tpos) (.Call (.Name "zip" p) [e, e2] [] pos) (iZipD te te2) := by
  refine ⟨fun W tk => ?_⟩
  refine ⟨_, pi_zipA hg hm ((ad_cons h (ad_cons h2 ad_nil hs2) hs).pa tk) (star_cons hs) (star_any (by show (notStar e2 && true) = true; rw [hs2]; rfl)), fun F σ H ds M Z QI hst ht RV k => ?_⟩
  refine ⟨F, ds, M, _, _, hst, ht, fun vs H1 xs M1 st mm rp q => ?_⟩
  match xs, rp, q with
  | [.lst ys, .lst zs], rp, q =>
    obtain ⟨v, w, rfl, r1, r2⟩ := repA2 rp
    cases r1 with
    | lst hx r => cases r2 with
      | lst hx2 r2 => exact ⟨_, _, _, _, rfl, .inl ⟨hx.sq, hx2.sq, k _ H1 _ M1 st mm (walkd_zip hx r hx2 r2) q⟩⟩
  | [.tup ys, .tup zs], rp, q =>
    obtain ⟨v, w, rfl, r1, r2⟩ := repA2 rp
    cases r1 with
    | tup hx r => cases r2 with
      | tup hx2 r2 => exact ⟨_, _, _, _, rfl, .inr ⟨hx.sq, hx2.sq, k _ H1 _ M1 st mm (walkd_zipT hx r hx2 r2) q⟩⟩

/-! ### for -/
def forGo (g : Tgt) (tb : TSD) (E : EndsD) : List D → SD → MM → Prop
  | [], ds, M => E.nx ds M
  | x :: xs, ds, M => optK (setT g x ds) fun ds2 => tb { E with nx := forGo g tb E xs, ct := forGo g tb E xs, bk := E.nx } ds2 M
theorem forGo_congr {g : Tgt} {tb : TSD} {E : EndsD} {xs xs' : List D} {ds ds' : SD} {M M' : MM} (h1 : xs = xs') (h2 : ds = ds') (h3 : M = M') : forGo g tb E xs ds M = forGo g tb E xs' ds' M' := by rw [h1, h2, h3]
def dFor (ti : TID) (g : Tgt) (tb : TSD) : TSD := fun E ds M => ti ds M (E.xd ds) fun items M1 => forGo g tb E items ds M1
@[simp ↓] theorem dFor_eq (ti : TID) (g : Tgt) (tb : TSD) : ∀ E ds M, dFor ti g tb E ds M = (ti ds M (E.xd ds) fun items M1 => forGo g tb E items ds M1) := fun _ _ _ => rfl
theorem s_for {iter : Expr} {body : List Stmt} {ti : TID} {g : Tgt} {tb : TSD} (hp : PassesOwn (model X.prog X.w) X.A X.env X.xe) (hc : X.calm = true) (hi : PID X tg iter ti) (hg : PGT X tg g) (hb : PSsD X body tb)
    (hs : ∀ x, foldedSetIterable iter X.env x = pure x := by intro _; rfl) : PSD X (.For tg iter body [] pos) (dFor ti g tb) := by
  refine ⟨fun W tk F pins s σ H ds M E I hst kx ht => ?_⟩
  obtain ⟨wi, pi, hw⟩ := hi.run W tk
  refine (ps_for hp hc pi hg (hb.ps tk) hs).run pins s σ H _ I ?_
  refine hw F σ H ds M _ _ (hst.ex kx) ht _ fun J H1 items M1 st mm wk q => ?_
  refine ⟨fun i m σ' H' => m = items.length - i ∧ i ≤ items.length ∧ ∃ ds' M', Stp H1 (keys M1) H' (keys M') ∧ Sts X.K F H' σ' ds' M' ∧ forGo g tb E (items.drop i) ds' M', ⟨items.length, by simp, Nat.zero_le _, ds, M1, .refl _ _, hst.to st mm, q⟩, ?_⟩
  rintro i m σ' H' ⟨rfl, hle, ds', M', s1, tt, w⟩
  by_cases hlt : i < items.length
  · refine .inr ⟨wk.go F i H' (keys M') hlt s1.fix, fun σ2 H2 => ∃ ds2 M2, Stp H1 (keys M1) H2 (keys M2) ∧ Sts X.K F H2 σ2 ds2 M2 ∧ forGo g tb E (items.drop (i + 1)) ds2 M2, fun σ2 H2 h => ⟨items.length - (i + 1), by omega, rfl, hlt, h⟩, fun x H2 y => ?_⟩
    obtain ⟨s2, mm2, d, hd, rp⟩ := wk.yld F i H' M' x H2 hlt s1.fix tt.mm y
    have e0 : items.drop i = d :: items.drop (i + 1) := by
      rw [List.drop_eq_getElem_cons hlt]
      rw [List.getElem?_eq_getElem hlt] at hd
      cases hd
      rfl
    have tn := w
    rw [e0] at tn
    have tn : optK (setT g d ds') (fun ds2 => tb { E with nx := forGo g tb E (items.drop (i + 1)), ct := forGo g tb E (items.drop (i + 1)), bk := E.nx } ds2 M') := tn
    unfold optK at tn
    split at tn
    · rename_i ds2 e
      refine tg_ok rp e (tt.sl.step s2.fix) fun σ2 h2 _ => ?_
      have sAll := (st.trans s1).trans s2
      refine ⟨F, ds2, M', _, ⟨mm2, h2⟩, tn, ⟨fun σ3 H3 ds3 M3 s3 t3 w3 => ⟨ds3, M3, (s1.trans s2).trans s3, t3, w3⟩, KQ.eq.on sAll, KS.es.on sAll, fun σ3 H3 ds3 M3 s3 t3 w3 => ⟨ds3, M3, (s1.trans s2).trans s3, t3, w3⟩, kx.on sAll⟩⟩
    · exact tn.elim
  · have e : i = items.length := by omega
    subst e
    rw [List.drop_length] at w
    exact .inl ⟨wk.stop F H' (keys M') s1.fix, ds', M', st.trans s1, tt, w⟩
/-! ### while -/
def dWhile (c : TTD) (tb : TSD) : TSD := fun E ds M => ∃ Wh : Nat → SD → MM → Prop, (∃ m, Wh m ds M) ∧ ∀ m ds M, Wh m ds M → c ds M (E.xd ds) fun b M1 => if b = true then tb { E with nx := fun ds' M' => ∃ m', m' < m ∧ Wh m' ds' M', ct := fun ds' M' => ∃ m', m' < m ∧ Wh m' ds' M', bk := E.nx } ds M1 else E.nx ds M1
theorem dWhile_congr {c : TTD} {tb : TSD} {E : EndsD} {ds ds' : SD} {M M' : MM} (h2 : ds = ds') (h3 : M = M') : dWhile c tb E ds M = dWhile c tb E ds' M' := by rw [h2, h3]
theorem s_while {c : Expr} {body : List Stmt} {tc : TTD} {tb : TSD} (hp : PassesOwn (model X.prog X.w) X.A X.env X.xe) (hc : PTD X c tc) (hb : PSsD X body tb) : PSD X (.While c body [] pos) (dWhile tc tb) := by
  refine PSD.of (fun W tk => ps_while hp (hc.pt tk) (hb.ps tk)) fun W F σ H ds M E hst kx ht => ?_
  obtain ⟨Wh, ⟨m0, w0⟩, turn⟩ := ht
  refine ⟨fun m σ' H' => ∃ ds' M', Stp H (keys M) H' (keys M') ∧ Sts X.K F H' σ' ds' M' ∧ Wh m ds' M', ⟨m0, ds, M, .refl _ _, hst, w0⟩, ?_⟩
  rintro m σ' H' ⟨ds', M', s1, tt, w⟩
  refine ⟨F, ds', M', _, _, tt.ex (kx.on s1), turn m ds' M' w, fun b H2 M2 s2 mm2 q => ?_⟩
  cases b with
  | true =>
    refine iteT ⟨fun σ3 H3 => ∃ m', m' < m ∧ ∃ ds3 M3, Stp H (keys M) H3 (keys M3) ∧ Sts X.K F H3 σ3 ds3 M3 ∧ Wh m' ds3 M3, fun σ3 H3 h => h, ?_⟩
    refine ⟨F, ds', M2, _, tt.to s2 mm2, q, ⟨fun σ3 H3 ds3 M3 s3 t3 w3 => ?_, KQ.eq.on (s1.trans s2), KS.es.on (s1.trans s2), fun σ3 H3 ds3 M3 s3 t3 w3 => ?_, kx.on (s1.trans s2)⟩⟩
    · obtain ⟨m', hm, w3⟩ := w3
      exact ⟨m', hm, ds3, M3, (s1.trans s2).trans s3, t3, w3⟩
    · obtain ⟨m', hm, w3⟩ := w3
      exact ⟨m', hm, ds3, M3, (s1.trans s2).trans s3, t3, w3⟩
  | false => exact iteF ⟨ds', M2, s1.trans s2, tt.to s2 mm2, q⟩

/-! ### list comprehensions -/
@[simp] def wipeD (ds : SD) : List Nat → SD
  | [] => ds
  | v :: vs => (wipeD ds vs).set v none
theorem RSl.forget {K : PySem.W.Frag} {B : List Addr} {H : Hp} {σ : L2.St} {ds : SD} (h : RSl K B H σ ds) (i : Nat) : RSl K B H (σ.set i none) (ds.set i none) := by
  refine ⟨by simp [h.len], fun j d hj => ?_⟩
  by_cases q : i = j
  · subst q
    by_cases hl : i < ds.length
    · rw [List.getElem?_set_self hl] at hj; cases hj
    · rw [List.getElem?_eq_none (by simpa using hl)] at hj; cases hj
  · rw [List.getElem?_set_ne q] at hj
    obtain ⟨w, h1, h2⟩ := h.at_ j d hj
    exact ⟨w, by rw [List.getElem?_set_ne q]; exact h1, h2⟩
theorem RSl.wipe {K : PySem.W.Frag} {B : List Addr} {H : Hp} {σ : L2.St} {ds : SD} (h : RSl K B H σ ds) : ∀ vs : List Nat, RSl K B H (L2.wipe σ vs) (wipeD ds vs)
  | [] => h
  | v :: vs => (RSl.wipe h vs).forget v
def lcGo (g : Tgt) (tt : TTD) (te : TD) (ds : SD) (Q : QD) : List D → List D → MM → Prop
  | [], acc, M => Q (.lst acc) M
  | x :: xs, acc, M => optK (setT g x ds) fun ds2 => tt ds2 M X0 fun b M3 => if b = true then te ds2 M3 X0 fun y M4 => acc.length < sizeLine ∧ lcGo g tt te ds Q xs (acc ++ [y]) M4 else lcGo g tt te ds Q xs acc M3
theorem lcGo_congr {g : Tgt} {tt : TTD} {te : TD} {ds ds' : SD} {Q : QD} {xs xs' acc acc' : List D} {M M' : MM} (h1 : xs = xs') (h2 : ds = ds') (h3 : M = M') (h4 : acc = acc') : lcGo g tt te ds Q xs acc M = lcGo g tt te ds' Q xs' acc' M' := by rw [h1, h2, h3, h4]
def dLc (ti : TID) (g : Tgt) (tt : TTD) (te : TD) (vs : List Nat) : TD := fun ds M Z Q => ti ds M Z fun items M1 => lcGo g tt te (wipeD ds vs) Q items [] M1
@[simp ↓] theorem dLc_eq (ti : TID) (g : Tgt) (tt : TTD) (te : TD) (vs : List Nat) : ∀ ds M Z Q, dLc ti g tt te vs ds M Z Q = (ti ds M Z fun items M1 => lcGo g tt te (wipeD ds vs) Q items [] M1) := fun _ _ _ _ => rfl
abbrev dYes : TTD := fun _ M _ Q => Q true M
abbrev W0 : WX := fun _ _ _ _ => False
def PTsD (X : Cx) (ifs : List Expr) (t : TTD) : Prop := PTs X ifs (ttOf X.K W0 t)
theorem ts_nil : PTsD X [] dYes := ⟨fun pins s σ H Q I h => by
  obtain ⟨F, ds, M, Z, QD, hs, ht, k⟩ := h
  exact pts_nil.run pins s σ H Q I (k true H M (.refl _ _) hs.mm ht)⟩
theorem ts_one {c : Expr} {t : TTD} (h : PTD X c t) : PTsD X [c] t := pts_one (h.pt takes0)
theorem fix_hide {H : Hp} {F : List Addr} {M : MM} {L : Addr} {o : HO} (h : H L = none) : Fix H (ak F M) (upd H L o) (ak (L :: F) M) := fun a u ha e => by
  have hne : a ≠ L := ne_of_none e h
  rw [List.mem_append, not_or] at ha
  refine ⟨fun z => ?_, by rw [upd_ne hne]; exact e⟩
  rcases List.mem_append.mp z with z | z
  · exact ha.1 z
  · rcases List.mem_cons.mp z with z | z
    · exact hne z
    · exact ha.2 z
theorem RMM.hide {K : PySem.W.Frag} {F : List Addr} {H : Hp} {M : MM} {L : Addr} {o : HO} (m : RMM K F H M) (h : H L = none) : RMM K (L :: F) (upd H L o) M := by
  have hL := m.notin h
  rw [List.mem_append, not_or] at hL
  refine ⟨m.nd, fun a mo ha => (m.at_ a mo ha).step (fix_hide h) ?_, fun f hf => ?_⟩
  · obtain ⟨u, e⟩ := (m.at_ a mo ha).some
    rw [upd_ne (ne_of_none e h)]
  · rcases List.mem_cons.mp hf with e | hf
    · subst e; exact ⟨hL.1, _, upd_same⟩
    · obtain ⟨h1, u, e⟩ := m.fd f hf
      exact ⟨h1, u, by rw [upd_ne (ne_of_none e h)]; exact e⟩
theorem fix_hid {H : Hp} {F : List Addr} {M : MM} {L : Addr} {o : HO} (h : L ∈ F) : Fix H (ak F M) (upd H L o) (ak F M) := fun a u ha e => by
  refine ⟨ha, ?_⟩
  rw [upd_ne (fun z => ha (by rw [z]; exact List.mem_append_right _ h))]
  exact e
theorem RMM.hid {K : PySem.W.Frag} {F : List Addr} {H : Hp} {M : MM} {L : Addr} {o : HO} (m : RMM K F H M) (h : L ∈ F) : RMM K F (upd H L o) M := by
  refine ⟨m.nd, fun a mo ha => (m.at_ a mo ha).step (fix_hid h) (upd_ne fun z => (m.fd L h).1 (by rw [← z]; exact List.mem_map.mpr ⟨_, ha, rfl⟩)), fun f hf => ?_⟩
  obtain ⟨h1, u, e⟩ := m.fd f hf
  by_cases q : f = L
  · subst q; exact ⟨h1, _, upd_same⟩
  · exact ⟨h1, u, by rw [upd_ne q]; exact e⟩
theorem fix_show {H : Hp} {F : List Addr} {M : MM} {L : Addr} : Fix H (ak (L :: F) M) H (ak F M) := fun a u ha e => by
  refine ⟨fun z => ha ?_, e⟩
  rcases List.mem_append.mp z with z | z
  · exact List.mem_append_left _ z
  · exact List.mem_append_right _ (List.mem_cons_of_mem _ z)
theorem RMM.show {K : PySem.W.Frag} {F : List Addr} {H : Hp} {M : MM} {L : Addr} (m : RMM K (L :: F) H M) : RMM K F H M :=
  ⟨m.nd, fun a mo ha => (m.at_ a mo ha).step fix_show rfl, fun f hf => m.fd f (List.mem_cons_of_mem _ hf)⟩
theorem Fix.trans {H H1 H2 : Hp} {A A1 A2 : List Addr} (a : Fix H A H1 A1) (b : Fix H1 A1 H2 A2) : Fix H A H2 A2 := fun c o hc e => by
  obtain ⟨h1, h2⟩ := a c o hc e
  exact b c o h1 h2
theorem lc_ok {W : WX} {Z : XD} {F : List Addr} {σ : L2.St} {H : Hp} {ds : SD} {M : MM} {Q : QD} {QV : VK} {K : PySem.W.Frag} {wi : TI} {ti : TID} {g : Tgt} {tt : TTD} {te : TD} {vs : List Nat} (hv : ∀ i ∈ g.slots, i ∈ vs)
    (hw : ∀ F σ H ds M Z QI, Stt K W F H σ ds M Z → ti ds M Z QI → ∀ RV : It → Hp → Prop, (∀ J H1 items M1, Stp H (keys M) H1 (keys M1) → RMM K F H1 M1 → WalkD K F J H1 M1 items → QI items M1 → RV J H1) → wi σ H RV)
    (hst : Stt K W F H σ ds M Z) (ht : dLc ti g tt te vs ds M Z Q) (k : KQ K F H M Q QV) : tLc wi (tgV K g) (ttOf K W0 tt) (teOf K W0 te) vs σ H QV := by
  refine hw F σ H ds M _ _ hst ht _ fun J H1 items M1 st mm wk q => ?_
  intro L hL
  have hLF : L ∉ F := fun z => by
    obtain ⟨_, o, e⟩ := mm.fd L z
    rw [hL] at e; cases e
  refine ⟨fun i m H' => m = items.length - i ∧ i ≤ items.length ∧ ∃ acc vacc M', Stp H1 (keys M1) H' (keys M') ∧ Fix H1 (ak F M1) H' (ak (L :: F) M') ∧ RMM K (L :: F) H' M' ∧ H' L = some (.lst vacc) ∧ RepA K (ak (L :: F) M') H' vacc acc ∧ RSl K (ak (L :: F) M') H' σ ds ∧ lcGo g tt te (wipeD ds vs) Q (items.drop i) acc M',
    ⟨items.length, by simp, Nat.zero_le _, [], [], M1, stp_new hL, fix_hide hL, mm.hide hL, upd_same, .nil, ((hst.to st mm).sl.step (fix_hide hL)), q⟩, ?_⟩
  rintro i m H' ⟨rfl, hle, acc, vacc, M', s1, f1, mm', hLa, ra, sl, w⟩
  by_cases hlt : i < items.length
  · refine .inr ⟨wk.go (L :: F) i H' (keys M') hlt f1, fun H2 => ∃ acc vacc M2, Stp H1 (keys M1) H2 (keys M2) ∧ Fix H1 (ak F M1) H2 (ak (L :: F) M2) ∧ RMM K (L :: F) H2 M2 ∧ H2 L = some (.lst vacc) ∧ RepA K (ak (L :: F) M2) H2 vacc acc ∧ RSl K (ak (L :: F) M2) H2 σ ds ∧ lcGo g tt te (wipeD ds vs) Q (items.drop (i + 1)) acc M2, fun H2 h => ⟨items.length - (i + 1), by omega, rfl, hlt, h⟩, fun x H2 y => ?_⟩
    obtain ⟨s2, mm2, d, hd, rp⟩ := wk.yld (L :: F) i H' M' x H2 hlt f1 mm' y
    have hLk : L ∉ keys M' := (mm'.fd L List.mem_cons_self).1
    have e0 : items.drop i = d :: items.drop (i + 1) := by
      rw [List.drop_eq_getElem_cons hlt]
      rw [List.getElem?_eq_getElem hlt] at hd
      cases hd
      rfl
    have tn := w
    rw [e0] at tn
    have tn : optK (setT g d (wipeD ds vs)) (fun ds2 => tt ds2 M' X0 fun b M3 => if b = true then te ds2 M3 X0 fun y M4 => acc.length < sizeLine ∧ lcGo g tt te (wipeD ds vs) Q (items.drop (i + 1)) (acc ++ [y]) M4 else lcGo g tt te (wipeD ds vs) Q (items.drop (i + 1)) acc M3) := tn
    unfold optK at tn
    split at tn
    · rename_i ds2 e
      refine tg_ok rp e ((sl.step s2.fix).wipe vs) fun σ2 h2 hwp => ⟨?_, ?_⟩
      · rw [hwp vs hv, wipe_wipe vs vs fun _ h => h]
      · refine ⟨L :: F, ds2, M', _, _, ⟨mm2, h2, kw0⟩, tn, fun b H3 M3 s3 mm3 q3 => ?_⟩
        cases b with
        | true =>
          refine iteT ⟨L :: F, ds2, M3, _, _, ⟨mm3, h2.step s3.fix, kw0⟩, q3, fun yv H4 yd M4 s4 mm4 rp4 q4 => ?_⟩
          have s24 := (s2.trans s3).trans s4
          have o2 := s24.keep L _ hLk hLa
          have hm : L ∈ L :: F := List.mem_cons_self
          have fx : Fix H4 (ak (L :: F) M4) (upd H4 L (.lst (vacc ++ [yv]))) (ak (L :: F) M4) := fix_hid hm
          refine ⟨vacc, o2, by rw [ra.len]; exact q4.1, acc ++ [yd], vacc ++ [yv], M4, ?_, ?_, mm4.hid hm, upd_same, ?_, ?_, q4.2⟩
          · have sA := (s1.trans s24)
            exact ⟨fun b o hb e => by rw [upd_ne (ne_of_none e hL)]; exact sA.keep b o hb e, sA.new⟩
          · exact (f1.trans s24.fix).trans fx
          · exact ((ra.step s24.fix).append (.cons rp4 .nil)).step fx
          · exact (sl.step s24.fix).step fx
        | false =>
          have s23 := s2.trans s3
          exact iteF ⟨acc, vacc, M3, s1.trans s23, f1.trans s23.fix, mm3, s23.keep L _ hLk hLa, ra.step s23.fix, sl.step s23.fix, q3⟩
    · exact tn.elim
  · have e : i = items.length := by omega
    subst e
    rw [List.drop_length] at w
    have hLk : L ∉ keys M' := (mm'.fd L List.mem_cons_self).1
    refine .inl ⟨wk.stop (L :: F) H' (keys M') f1, k _ H' _ M' (st.trans s1) mm'.show (.lst ⟨?_, hLa⟩ (ra.step fix_show)) w⟩
    rw [List.mem_append, not_or]
    exact ⟨hLk, hLF⟩
theorem d_lc {elt iter : Expr} {ifs : List Expr} {scope : Scope} {own : List (Str × Nat)} {ti : TID} {g : Tgt} {tt : TTD} {te : TD} (hc : X.calm = true) (hN : X.N.Nodup) (hi : PID X tg iter ti) (ok : BlkOk X.N X.env.scope scope own)
    (hg : ∀ (s : Shared) (H : Hp) (C : Addr) (cl : List (Str × Addr)) (fp : List Addr), PG (X.blk s H scope (compEnvC scope cl C X.env) fp) tg (tgV X.K g)) (ht : ∀ (s : Shared) (H : Hp) (C : Addr) (cl : List (Str × Addr)) (fp : List Addr), PTsD (X.blk s H scope (compEnvC scope cl C X.env) fp) ifs tt)
    (he : ∀ (s : Shared) (H : Hp) (C : Addr) (cl : List (Str × Addr)) (fp : List Addr), PD (X.blk s H scope (compEnvC scope cl C X.env) fp) elt te) (hv : ∀ i ∈ g.slots, i ∈ own.map (·.2) := by decide) (hs : ∀ x, foldedSetIterable iter X.env x = pure x := by intro _; rfl) :
    PD X (.ListComp elt [⟨tg, iter, ifs, 0⟩] scope pos) (dLc ti g tt te (own.map (·.2))) := by
  refine ⟨fun W tk F pins s σ H ds M Z Q I hst hq => ?_⟩
  obtain ⟨wi, pi, hw⟩ := hi.run W tk
  refine thn ((pe_lc (tt := ttOf X.K W0 tt) (te := teOf X.K W0 te) hc hN pi ok hg ht (fun s H C cl fp => (he s H C cl fp).pe takes0) hs).run pins s σ H _ I (lc_ok hv hw hst hq KQ.eq)) fun u s' hh => ?_
  obtain ⟨v, H', I', r, d, M', st, mm, rp, q⟩ := hh
  exact ⟨v, H', d, M', I', r, st, mm, rp, q⟩
theorem s_setLc {i : Nat} {y : Str} {py : Pos} {elt iter : Expr} {ifs : List Expr} {scope : Scope} {own : List (Str × Nat)} {spos : Pos} {ti : TID} {g : Tgt} {tt : TTD} {te : TD} (hc : X.calm = true) (hN : X.N.Nodup) (hy : X.N[i]? = some y) (hyl : X.env.scope.names.lookup y = some .local)
    (hsw : swapsWith (.ListComp elt [⟨tg, iter, ifs, 0⟩] scope pos) (some (.Name y py)) spos.line X.env = pure true) (hi : PID X tg iter ti) (ok : BlkOk X.N X.env.scope scope own)
    (hg : ∀ (s : Shared) (H : Hp) (C : Addr) (cl : List (Str × Addr)) (fp : List Addr), PG (X.blk s H scope (compEnvC scope cl C X.env) fp) tg (tgV X.K g)) (ht : ∀ (s : Shared) (H : Hp) (C : Addr) (cl : List (Str × Addr)) (fp : List Addr), PTsD (X.blk s H scope (compEnvC scope cl C X.env) fp) ifs tt)
    (he : ∀ (s : Shared) (H : Hp) (C : Addr) (cl : List (Str × Addr)) (fp : List Addr), PD (X.blk s H scope (compEnvC scope cl C X.env) fp) elt te) (hv : ∀ i ∈ g.slots, i ∈ own.map (·.2) := by decide) (hs : ∀ x, foldedSetIterable iter X.env x = pure x := by intro _; rfl) :
    PSD X (.Assign [.Name y py] (.ListComp elt [⟨tg, iter, ifs, 0⟩] scope pos) spos) (dSet (dLc ti g tt te (own.map (·.2))) i) := by
  refine ⟨fun W tk F pins s σ H ds M E I hst kx hq => ?_⟩
  obtain ⟨wi, pi, hw⟩ := hi.run W tk
  refine (ps_setLc (tt := ttOf X.K W0 tt) (te := teOf X.K W0 te) hc hN hy hyl hsw pi ok hg ht (fun s H C cl fp => (he s H C cl fp).pe takes0) hs).run pins s σ H _ I ?_
  exact lc_ok hv hw (hst.ex kx) hq fun v H1 d M1 st mm rp q => ⟨_, M1, st, ⟨mm, (hst.to st mm).sl.put rp⟩, q⟩
end
end L2.Dl

namespace L2.Dl
open PySem PySem.Spec PyProof.Rows

/-! ### things that come and go -/
theorem stp_cons {H : Hp} {B : List Addr} {p : Addr} {o : HO} (h : H p = none) : Stp H B (upd H p o) (p :: B) :=
  ⟨fun b u _ e => by rw [upd_ne (ne_of_none e h)]; exact e, fun b hb => by
    rcases List.mem_cons.mp hb with e | hb
    · subst e; exact .inr h
    · exact .inl hb⟩
theorem RMM.cons {K : PySem.W.Frag} {F : List Addr} {H : Hp} {M : MM} {p : Addr} {o : HO} {mo : MO} (m : RMM K F H M) (h : H p = none) (r : RepO K (ak F ((p, mo) :: M)) (upd H p o) p mo) : RMM K F (upd H p o) ((p, mo) :: M) := by
  have hp := m.notin h
  rw [List.mem_append, not_or] at hp
  refine ⟨List.nodup_cons.mpr ⟨hp.1, m.nd⟩, fun a mo' ha => ?_, fun f hf => ?_⟩
  · rcases List.mem_cons.mp ha with e | ha
    · cases e; exact r
    · obtain ⟨u, e⟩ := (m.at_ a mo' ha).some
      refine (m.at_ a mo' ha).step (H' := upd H p o) (stp_cons h).fix ?_
      rw [upd_ne (ne_of_none e h)]
  · obtain ⟨h1, u, e⟩ := m.fd f hf
    refine ⟨fun z => ?_, u, by rw [upd_ne (ne_of_none e h)]; exact e⟩
    rcases List.mem_cons.mp z with z | z
    · exact absurd z (ne_of_none e h)
    · exact h1 z
theorem RMM.consL {K : PySem.W.Frag} {F : List Addr} {H : Hp} {M : MM} {p : Addr} {vs : List V} {xs : List D} (m : RMM K F H M) (h : H p = none) (r : RepA K (ak F M) H vs xs) : RMM K F (upd H p (.lst vs)) ((p, .lst xs) :: M) :=
  m.cons h ⟨vs, upd_same, r.step (stp_cons h).fix⟩
def drop (M : MM) (p : Addr) : MM := M.filter fun q => !decide (q.1 = p)
theorem drop_sub {M : MM} {p b : Addr} (h : b ∈ keys (drop M p)) : b ∈ keys M ∧ b ≠ p := by
  obtain ⟨q, hq, e⟩ := List.mem_map.mp h
  obtain ⟨h1, h2⟩ := List.mem_filter.mp hq
  subst e
  refine ⟨List.mem_map.mpr ⟨q, h1, rfl⟩, fun z => ?_⟩
  rw [decide_eq_true z] at h2
  cases h2
theorem stp_drop {H : Hp} {M : MM} {p : Addr} : Stp H (keys M) H (keys (drop M p)) := ⟨fun _ _ _ e => e, fun b hb => .inl (drop_sub hb).1⟩
theorem RMM.drop {K : PySem.W.Frag} {F : List Addr} {H : Hp} {M : MM} (m : RMM K F H M) (p : Addr) : RMM K F H (drop M p) := by
  refine ⟨m.nd.sublist (List.Sublist.map _ List.filter_sublist), fun a mo ha => ?_, fun f hf => ?_⟩
  · exact (m.at_ a mo (List.mem_filter.mp ha).1).step stp_drop.fix rfl
  · obtain ⟨h1, u⟩ := m.fd f hf
    exact ⟨fun z => h1 (drop_sub z).1, u⟩
@[simp] theorem drop_cons {M : MM} {p : Addr} {mo : MO} (h : p ∉ keys M) : drop ((p, mo) :: M) p = M := by
  unfold drop
  rw [List.filter_cons, if_neg (by simp)]
  refine List.filter_eq_self.mpr fun q hq => ?_
  have : q.1 ≠ p := fun z => h (List.mem_map.mpr ⟨q, hq, z⟩)
  simp [this]
@[simp] theorem put_cons {M : MM} {p : Addr} {mo mo' : MO} (h : p ∉ keys M) : put ((p, mo) :: M) p mo' = (p, mo') :: M := by
  unfold put
  rw [List.map_cons, if_pos rfl]
  congr 1
  refine (List.map_congr_left fun q hq => ?_).trans (List.map_id _)
  have : q.1 ≠ p := fun z => h (List.mem_map.mpr ⟨q, hq, z⟩)
  rw [if_neg this]
  rfl
@[simp] theorem look_cons {M : MM} {p : Addr} {mo : MO} : List.lookup p ((p, mo) :: M) = some mo := by simp [List.lookup]
@[simp] theorem put_put (M : MM) (a : Addr) (x y : MO) : put (put M a x) a y = put M a y := by
  unfold put
  rw [List.map_map]
  refine List.map_congr_left fun p _ => ?_
  show (if (if p.1 = a then (a, x) else p).1 = a then (a, y) else (if p.1 = a then (a, x) else p)) = if p.1 = a then (a, y) else p
  by_cases h : p.1 = a
  · rw [if_pos h, if_pos rfl, if_pos h]
  · rw [if_neg h, if_neg h]

/-! ### defs and their promises -/
abbrev SpD := List D → MM → XD → QD → Prop
def KX (K : PySem.W.Frag) (F : List Addr) (H : Hp) (M : MM) (Z : XD) (E : XK) : Prop := ∀ C fs vs d H' M', Stp H (keys M) H' (keys M') → RMM K F H' M' → H' d = some (.xd vs) → d ∉ ak F M' → RepF K (ak F M') H' Str vs fs → Z C fs M' → E (.ref (He.ga K C)) (some d) H'
theorem KX.kw {K : PySem.W.Frag} {F : List Addr} {H : Hp} {M : MM} {Z : XD} {E : XK} (k : KX K F H M Z E) {σ : L2.St} : KW K F H M σ Z (fun c d _ H => E c d H) := fun C fs vs d H' M' st mm e n r q => k C fs vs d H' M' st mm e n r q
theorem KX.ws {K : PySem.W.Frag} {F : List Addr} {H : Hp} {M : MM} {Z : XD} {E : XK} (k : KX K F H M Z E) : KWS K F H M (fun C fs _ M => Z C fs M) (fun c d _ H => E c d H) := fun C fs vs d σ' ds' H' M' st tt e n r q => k C fs vs d H' M' st tt.mm e n r q
def spOf (K : PySem.W.Frag) (sp : SpD) : Sp := fun vs H Q E => ∃ F xs M Z QD, RMM K F H M ∧ RepA K (ak F M) H vs xs ∧ sp xs M Z QD ∧ KQ K F H M QD Q ∧ KX K F H M Z E
@[simp] def startD (N : List Str) (xs : List D) : SD := xs.map some ++ List.replicate (N.length - xs.length) none
theorem start_ok {K : PySem.W.Frag} {B : List Addr} {H : Hp} {vs : List V} {xs : List D} (N : List Str) (r : RepA K B H vs xs) : RSl K B H (start N vs) (startD N xs) := by
  refine ⟨by unfold start startD; simp [r.len], fun i d e => ?_⟩
  unfold startD at e
  unfold start
  by_cases hi : i < xs.length
  · rw [List.getElem?_append_left (by simpa using hi), List.getElem?_map] at e
    cases q : xs[i]? with
    | none => rw [q] at e; cases e
    | some x =>
      rw [q] at e
      cases e
      obtain ⟨v, h1, h2⟩ := r.get q
      refine ⟨v, ?_, h2⟩
      rw [List.getElem?_append_left (by simp [r.len]; exact hi), List.getElem?_map, h1]
      rfl
  · rw [List.getElem?_append_right (by simp; omega)] at e
    have := List.mem_of_getElem? e
    rw [List.mem_replicate] at this
    cases this.2
/-- what a def's body must give -/
abbrev BodyD (P : Program) (w : World) (K : PySem.W.Frag) (mg : Str → Option Value) (base : Heap) (N : List Str) (qual : Str) (scope : Scope) (f : Addr) (k : Nat) (body : List Stmt) (t : TSD) : Prop :=
  ∀ (X : Cx) (cdv : Value) (A : Around) (outer : List Env) (s : Shared) (H : Hp) (E : XK), X = cxOf (L2.CX P w) P w K mg base N qual scope f cdv A outer s H E → Room k X.A → PassesOwn (model X.prog X.w) X.A X.env X.xe → PSsD X body t
section
variable {P : Program} {w : World} {K : PySem.W.Frag} {mg : Str → Option Value} {base : Heap} {x qual : Str} {params : Arguments} {body : List Stmt} {scope : Scope} {dvs : List V} {kws : List (Str × V)} {f : Addr} {fd : FuncData}
theorem body_run {N : List Str} {k : Nat} {sp : SpD} {t : TSD} (hb : BodyD P w K mg base N qual scope f k body t) (hp : ∀ xs M Z Q, sp xs M Z Q → t { nx := fun _ M' => Q .non M', rt := Q, xc := fun C fs _ M' => Z C fs M' } (startD N xs) M)
    (cdv : Value) (A : Around) (outer : List Env) (s : Shared) (H : Hp) (vs : List V) (Q : VK) (E : XK) (hr : Room k (A.deeper (envOfC qual scope s.heap.objs.size f cdv))) (h : spOf K sp vs H Q E) :
    ∃ t, PSs (cxOf (L2.CX P w) P w K mg base N qual scope f cdv A outer s H E) body t ∧ t { nx := fun _ H' => Q .non H', rt := Q } (start N vs) H := by
  obtain ⟨F, xs, M, Z, QD, mm, r, h, kq, kx⟩ := h
  refine ⟨_, (hb _ cdv A outer s H E rfl hr (passes_of rfl)).ps (takes_of rfl rfl rfl rfl), ?_⟩
  refine ⟨F, startD N xs, M, _, ⟨mm, start_ok N r⟩, hp xs M Z QD h, ⟨fun σ' H' ds' M' st tt q => ?_, kq, fun _ _ _ _ _ _ q => q.elim, fun _ _ _ _ _ _ q => q.elim, kx.ws⟩⟩
  exact kq .non H' .non M' st tt.mm .non q
/-- a def -/
theorem fn_d {N ps : List Str} {k : Nat} {sp : SpD} (Fn : FunD K x qual params body scope dvs kws f fd) (S : FnScope N ps scope) {t : TSD} (hb : BodyD P w K mg base N qual scope f k body t)
    (hp : ∀ xs M Z Q, sp xs M Z Q → xs.length = ps.length ∧ t { nx := fun _ M' => Q .non M', rt := Q, xc := fun C fs _ M' => Z C fs M' } (startD N xs) M) : FnOk P w K mg base (L2.CX P w) (k + 1) f fd ps (spOf K sp) := by
  refine Fn.ok S (fun vs H Q E h => ?_) (fun cdv A outer s H vs Q E hr h => body_run hb (fun xs M Z Q h => (hp xs M Z Q h).2) cdv A outer s H vs Q E hr h)
  obtain ⟨F, xs, M, Z, QD, _, r, h, _⟩ := h
  rw [r.len]
  exact (hp _ _ _ _ h).1
/-! ### called by values: positional ones, keywords ks -/
abbrev SpS := List D → List D → MM → XD → QD → Prop
def FnS (P : Program) (w : World) (K : PySem.W.Frag) (mg : Str → Option Value) (base : Heap) (k : Nat) (f : Addr) (ks : List Str) (sp : SpS) : Prop :=
  ∀ (A : Around) (outer : List Env) (s : Shared) (H : Hp) (us ws : List Value) (vs zs : List V) (F : List Addr) (xs ys : List D) (M : MM) (Z : XD) (QD : QD) (Q : VK) (E : XK), Room k A → Env0 P w K mg base A outer s H → Vals vs us → Vals zs ws → zs.length = ks.length →
    RMM K F H M → RepA K (ak F M) H vs xs → RepA K (ak F M) H zs ys → sp xs ys M Z QD → KQ K F H M QD Q → KX K F H M Z E → codeAny (model P w) A (.call (.ref f) ⟨us, ks.zip ws⟩) (CR (L2.CX P w) outer P w H s Q E) s
theorem FnS.mono {j k : Nat} {ks : List Str} {sp : SpS} (h : FnS P w K mg base j f ks sp) (hj : j ≤ k) : FnS P w K mg base k f ks sp := fun A outer s H us ws vs zs F xs ys M Z QD Q E hr => h A outer s H us ws vs zs F xs ys M Z QD Q E (hr.mono hj)
theorem FnS.imp {k : Nat} {ks : List Str} {sp sp' : SpS} (h : FnS P w K mg base k f ks sp) (hi : ∀ xs ys M Z Q, sp' xs ys M Z Q → sp xs ys M Z Q) : FnS P w K mg base k f ks sp' := fun A outer s H us ws vs zs F xs ys M Z QD Q E hr e0 r1 r2 l mm a b q => h A outer s H us ws vs zs F xs ys M Z QD Q E hr e0 r1 r2 l mm a b (hi _ _ _ _ _ q)
def GRel (K : PySem.W.Frag) (gV : List V → List V → List V) (gD : List D → List D → List D) : Prop := ∀ B H vs zs xs ys, RepA K B H vs xs → RepA K B H zs ys → RepA K B H (gV vs zs) (gD xs ys)
/-- by the parameters' order: gD puts positional and keyword values into it -/
theorem fns_of {ps ks : List Str} {k n : Nat} {sp : SpD} {g : List Value → List Value → List Value} {gV : List V → List V → List V} {gD : List D → List D → List D} (Fn : FnOk P w K mg base (L2.CX P w) k f fd ps (spOf K sp)) (hb : KBn K fd ps n ks g gV) (hG : GRel K gV gD) :
    FnS P w K mg base k f ks (fun xs ys M Z Q => xs.length = n ∧ sp (gD xs ys) M Z Q) := by
  intro A outer s H us ws vs zs F xs ys M Z QD Q E hr e0 r1 r2 hl mm a b h kq kx
  have KI : K.In s.heap := e0.mod.kin.keeps fun b o e => (e0.bs b o e).1
  refine Fn.run A outer s H ⟨us, ks.zip ws⟩ (g us ws) (gV vs zs) Q E hr e0 (hb.to s us ws KI ?_ ?_) (hb.rel r1 r2) ⟨F, gD xs ys, M, Z, QD, mm, hG _ _ _ _ _ _ a b, h.2, kq, kx⟩
  · rw [← r1.length, a.len]; exact h.1
  · rw [← r2.length]; exact hl
/-- all parameters positional -/
theorem fns_all {ps : List Str} {k : Nat} {sp : SpD} (Fn : FnOk P w K mg base (L2.CX P w) k f fd ps (spOf K sp)) (hb : Binds K fd ps []) : FnS P w K mg base k f [] (fun xs _ M Z Q => sp xs M Z Q) := by
  intro A outer s H us ws vs zs F xs ys M Z QD Q E hr e0 r1 r2 hl mm a b h kq kx
  have KI : K.In s.heap := e0.mod.kin.keeps fun b o e => (e0.bs b o e).1
  have hq : spOf K sp vs H Q E := ⟨F, xs, M, Z, QD, mm, a, h, kq, kx⟩
  have hn : us.length = ps.length := by rw [← r1.length]; exact Fn.len _ _ _ _ hq
  have b2 := hb s us KI (by rw [List.append_nil]; exact hn)
  rw [List.append_nil] at b2
  exact Fn.run A outer s H ⟨us, []⟩ us vs Q E hr e0 b2 r1 hq
/-- the last parameters by their defaults -/
theorem fns_dfl {ps : List Str} {k n : Nat} {sp : SpD} {ds : List Value} {dvs : List V} {dD : List D} (Fn : FnOk P w K mg base (L2.CX P w) k f fd ps (spOf K sp)) (hb : Binds K fd ps ds) (hd : Vals dvs ds) (hD : ∀ B H, RepA K B H dvs dD) : FnS P w K mg base k f [] (fun xs _ M Z Q => sp (xs ++ dD) M Z Q) := by
  intro A outer s H us ws vs zs F xs ys M Z QD Q E hr e0 r1 r2 hl mm a b h kq kx
  have KI : K.In s.heap := e0.mod.kin.keeps fun b o e => (e0.bs b o e).1
  have hq : spOf K sp (vs ++ dvs) H Q E := ⟨F, xs ++ dD, M, Z, QD, mm, a.append (hD _ _), h, kq, kx⟩
  have r3 := r1.append hd
  have hn : (us ++ ds).length = ps.length := by rw [← r3.length]; exact Fn.len _ _ _ _ hq
  exact Fn.run A outer s H ⟨us, []⟩ (us ++ ds) (vs ++ dvs) Q E hr e0 (hb s us KI hn) r3 hq
/-- def f(a, .., *v) -/
theorem fns_star {N ps : List Str} {pv : Str} {k : Nat} {sp : SpD} (Fn : FunD K x qual params body scope [] kws f fd) (S : FnScope N (ps ++ [pv]) scope) {t : TSD} (hb : BodyD P w K mg base N qual scope f k body t)
    (hbind : ∀ (kV doc pm : Value) (an : Option Addr) (cdv ct : Value) (us rest : List Value), us.length = ps.length → bindArgs (PySem.W.fnOf x qual params body scope .none kV doc pm an cdv ct) ⟨us ++ rest, []⟩ = (newTuple rest >>= fun t => pure (ps.zip us ++ [(pv, t)])))
    (hp : ∀ xs M Z Q, sp xs M Z Q → t { nx := fun _ M' => Q .non M', rt := Q, xc := fun C fs _ M' => Z C fs M' } (startD N xs) M) :
    FnS P w K mg base (k + 1) f [] (fun xs _ M Z Q => ps.length ≤ xs.length ∧ xs.length ≤ sizeLine ∧ sp (xs.take ps.length ++ [.tup (xs.drop ps.length)]) M Z Q) := by
  obtain ⟨oc, od, dV, kV, doc, pm, an, cdv, ct, osl, rfl, lk, hcd, hD, hK⟩ := Fn.ex
  have hdv : dV = .none := by
    rcases hD with ⟨_, e⟩ | ⟨e, _⟩
    · exact e
    · exact absurd rfl e
  subst hdv
  have R := StX.fn_star (P := P) (w := w) (mg := mg) (base := base) (k := k) (sp := spOf K sp) lk hcd S StX.cxUp (hbind kV doc pm an cdv ct) fun A outer s H vs Q E hr h => body_run hb hp cdv A outer s H vs Q E hr h
  intro A outer s H us ws vs zs F xs ys M Z QD Q E hr e0 r1 r2 hl mm a b h kq kx
  refine R A outer s H us vs Q E hr e0 r1 ⟨vs.take ps.length, vs.drop ps.length, (List.take_append_drop _ _).symm, ?_, ?_, fun p hp => ?_⟩
  · rw [List.length_take, a.len]; omega
  · rw [List.length_drop, a.len]; omega
  · refine ⟨F, xs.take ps.length ++ [.tup (xs.drop ps.length)], M, Z, QD, mm.new hp, ?_, h.2.2, fun v H' d M' st mm' rp q => kq v H' d M' ((stp_new hp).trans st) mm' rp q, fun C fs vs d H' M' st mm' e n r q => kx C fs vs d H' M' ((stp_new hp).trans st) mm' e n r q⟩
    exact ((a.take _).step (stp_new hp).fix).append (.cons (mm.newT hp (a.drop _)) .nil)
end
section
variable {X : Cx} {W : WX} {pins : List (Addr × Obj)} {σ : L2.St} {H : Hp} {s : Shared} {F : List Addr} {ds : SD} {M : MM} {Z : XD} {k : Nat} {f C : Addr} {ks : List Str} {sp : SpS}
abbrev EPD (X : Cx) (F : List Addr) (pins : List (Addr × Obj)) (σ : L2.St) (H : Hp) (M : MM) (Q : QD) : Value → Shared → Prop := fun u s' => ∃ v H' d M', Inv X pins σ H' s' ∧ RelV v u ∧ Stp H (keys M) H' (keys M') ∧ RMM X.K F H' M' ∧ Rep X.K (ak F M') H' v d ∧ Q d M'
theorem EPD.up {H0 : Hp} {M0 : MM} {Q : QD} {u : Value} {s' : Shared} (st : Stp H0 (keys M0) H (keys M)) (h : EPD X F pins σ H M Q u s') : EPD X F pins σ H0 M0 Q u s' := by
  obtain ⟨v, H', d, M', I, r, s1, mm, rp, q⟩ := h
  exact ⟨v, H', d, M', I, r, st.trans s1, mm, rp, q⟩
theorem run_fnS {us ws : List Value} {vs zs : List V} {xs ys : List D} {Q : QD} (tk : Takes X W) (Fn : FnS X.prog X.w X.K X.mg X.base k f ks sp) (hr : Room k X.A) (I : Inv X pins σ H s) (mm : RMM X.K F H M) (kx : KW X.K F H M σ Z W) (r1 : Vals vs us) (r2 : Vals zs ws) (hl : zs.length = ks.length)
    (a : RepA X.K (ak F M) H vs xs) (b : RepA X.K (ak F M) H zs ys) (h : sp xs ys M Z Q) : wpAny (model X.prog X.w) X.A (call (.ref f) us (ks.zip ws)) (EPD X F pins σ H M Q) X.xe s := by
  refine wpAny_call (codeAny_mono (Fn X.A X.stack s H us ws vs zs F xs ys M Z Q (EQ X.K F H M Q) (fun c d H' => W c d σ H') hr I.env0 r1 r2 hl mm a b h KQ.eq fun C fs vs d H' M' st mm' e n r q => kx C fs vs d H' M' st mm' e n r q) fun r s' hq => ?_)
  cases r with
  | error e => exact tk e s' (XE.of_call I (fun _ _ _ z => z) hq)
  | ok fl =>
    cases fl with
    | ret u =>
      obtain ⟨v, H', I', rv, d, M', st, mm', rp, q⟩ := I.after hq
      exact ⟨v, H', d, M', I', rv, st, mm', rp, q⟩
    | next => exact False.elim hq
    | brk => exact False.elim hq
    | cont => exact False.elim hq
/-- a new instance -/
theorem stp_ins {H : Hp} {B : List Addr} {p dx C : Addr} (h : H p = none) (hd : H dx = none) (hne : dx ≠ p) : Stp H B (upd (upd H dx (.own p)) p (.ins C dx [])) (p :: B) :=
  ⟨fun b u _ e => by rw [upd_ne (ne_of_none e h), upd_ne (ne_of_none e hd)]; exact e, fun b hb => by
    rcases List.mem_cons.mp hb with e | hb
    · subst e; exact .inr h
    · exact .inl hb⟩
theorem RMM.ins {K : PySem.W.Frag} {H : Hp} {M : MM} {p dx : Addr} {C : Str} (m : RMM K F H M) (h : H p = none) (hd : H dx = none) (hne : dx ≠ p) : RMM K F (upd (upd H dx (.own p)) p (.ins (He.ga K C) dx [])) ((p, .obj C []) :: M) := by
  have h1 : upd H dx (.own p) p = none := by rw [upd_ne (Ne.symm hne)]; exact h
  exact (m.new hd).cons h1 ⟨dx, [], upd_same, .nil⟩
theorem run_mkS {us ws : List Value} {vs zs : List V} {xs ys : List D} {Cn : Str} {Q : QD} (tk : Takes X W) (Mk1 : Mk X.K (He.ga X.K Cn) f) (Fn : FnS X.prog X.w X.K X.mg X.base k f ks sp) (hr : Room (k + 1) X.A) (I : Inv X pins σ H s) (mm : RMM X.K F H M) (kx : KW X.K F H M σ Z W) (r1 : Vals vs us) (r2 : Vals zs ws) (hl : zs.length = ks.length)
    (a : RepA X.K (ak F M) H vs xs) (b : RepA X.K (ak F M) H zs ys) (h : ∀ p, p ∉ keys M → sp (.ref p :: xs) ys ((p, .obj Cn []) :: M) (fun E fs M3 => Z E fs (drop M3 p)) (fun v M3 => v = .non ∧ Q (.ref p) M3)) :
    wpAny (model X.prog X.w) X.A (call (.ref (He.ga X.K Cn)) us (ks.zip ws)) (EPD X F pins σ H M Q) X.xe s := by
  have hp : H (s.heap.objs.size + 1) = none := I.hok.fresh (Nat.le_succ _)
  have hd : H s.heap.objs.size = none := I.hok.fresh (Nat.le_refl _)
  have hne : s.heap.objs.size ≠ s.heap.objs.size + 1 := Nat.ne_of_lt (Nat.lt_succ_self _)
  have I2 := Inv.made (C := He.ga X.K Cn) I
  have hn := mm.notin hp
  rw [List.mem_append, not_or] at hn
  have hq := h _ hn.1
  have st := stp_ins (B := keys M) (C := He.ga X.K Cn) hp hd hne
  have m2 := RMM.ins (C := Cn) mm hp hd hne
  have fx : Fix H (ak F M) _ (ak F ((s.heap.objs.size + 1, MO.obj Cn []) :: M)) := (show Stp H (keys M) _ (keys ((s.heap.objs.size + 1, MO.obj Cn []) :: M)) from st).fix
  have rr : Vals (V.ref (s.heap.objs.size + 1) :: vs) (Value.ref (s.heap.objs.size + 1) :: us) := .cons rfl r1
  refine wpAny_call (make_map (f := f) I.kIn Mk1.makes Mk1.init (beq_iff_eq.mp Mk1.fn) (codeAny_mono (Fn _ X.stack _ _ (Value.ref (s.heap.objs.size + 1) :: us) ws _ zs F (.ref (s.heap.objs.size + 1) :: xs) ys ((s.heap.objs.size + 1, .obj Cn []) :: M) _ _
    (EQ X.K F _ ((s.heap.objs.size + 1, .obj Cn []) :: M) _) (fun c d H' => W c d σ H') (hr.make _ us (ks.zip ws)) (I2.env0.make _ us (ks.zip ws)) rr r2 hl m2 (.cons (.ref _) (a.step fx)) (b.step fx) hq KQ.eq fun C fs vs d H' M' st' mm' e n r q => ?_) fun r s' hq' => ?_))
  · have dp := (stp_drop (H := H') (M := M') (p := s.heap.objs.size + 1))
    refine kx C fs vs d H' (drop M' (s.heap.objs.size + 1)) ((st.trans st').trans dp) (mm'.drop _) e (fun z => n ?_) (r.step dp.fix) q
    rcases List.mem_append.mp z with z | z
    · exact List.mem_append_left _ (drop_sub z).1
    · exact List.mem_append_right _ z
  · cases r with
    | error e => exact tk e s' (XE.of_call I2 (fun _ _ _ z => z) hq')
    | ok fl =>
      cases fl with
      | ret u =>
        obtain ⟨v, H', I3, rv, d, M', st', mm', rp, ev, q3⟩ := I2.after hq'
        subst ev
        cases rp
        exact ⟨rv, ⟨V.ref (s.heap.objs.size + 1), H', .ref _, M', I3, rfl, st.trans st', mm', .ref _, q3⟩⟩
      | next => exact False.elim hq'
      | brk => exact False.elim hq'
      | cont => exact False.elim hq'
end
end L2.Dl

namespace L2.Dl
open PySem PySem.Spec PyProof.Rows
section
variable {X : Cx} {k n : Nat} {f g C : Addr} {fd : FuncData} {ps ks : List Str} {sp : SpS} {x m Cn : Str} {p pos apos : Pos} {e o : Expr} {es : List Expr} {t tk : TAD} {ta te to : TD} {kws : List Keyword}
/-! ### keywords -/
theorem kd_nil : PKD X [] dNil := ⟨fun W tk pos F pins s σ H ds M Z Q I hs hq =>
  thn (pk_nil.run pos pins s σ H (fun vs H' => vs = [] ∧ H' = H) I ⟨rfl, rfl⟩) fun us s' ⟨vs, H', I', r, e1, e2⟩ => by
    subst e1 e2
    exact ⟨[], _, [], M, I', r, .refl _ _, hs.mm, .nil, hq⟩⟩
theorem PKD.pk {W : WX} {kws : List Keyword} {t : TAD} (h : PKD X kws t) (tk : Takes X W) : PK X kws (taOf X.K W t) := by
  refine ⟨fun pos pins s σ H Q I hw => ?_⟩
  obtain ⟨F, ds, M, Z, QD, hs, ht, hq⟩ := hw
  refine thn (h.run W tk pos F pins s σ H ds M Z QD I hs ht) fun us s' hh => ?_
  obtain ⟨vs, H', xs, M', I', r, st, mm, rp, q⟩ := hh
  exact ⟨vs, H', I', r, hq vs H' xs M' st mm rp q⟩
theorem kd_cons {nm : Option Str} {kpos : Pos} {te : TD} (h : PD X e te) (hr : PKD X kws tk) : PKD X (⟨nm, e, kpos⟩ :: kws) (dCons te tk) := by
  refine ⟨fun W tks pos F pins s σ H ds M Z Q I hs ht => ?_⟩
  refine thn ((pk_cons (h.pe tks) (hr.pk tks)).run pos pins s σ H (fun vs H' => ∃ xs M', Stp H (keys M) H' (keys M') ∧ RMM X.K F H' M' ∧ RepA X.K (ak F M') H' vs xs ∧ Q xs M') I ?_) fun us s' hh => ?_
  · refine ⟨F, ds, M, _, _, hs, ht, fun v H1 d M1 st mm rp q => ?_⟩
    refine ⟨F, ds, M1, _, _, hs.to st mm, q, fun vs H2 xs M2 st2 mm2 rp2 q2 => ?_⟩
    exact ⟨d :: xs, M2, st.trans st2, mm2, .cons (rp.step st2.fix) rp2, q2⟩
  · obtain ⟨vs, H', I', r, xs, M', st, mm, rp, q⟩ := hh
    exact ⟨vs, H', xs, M', I', r, st, mm, rp, q⟩
/-! ### what is called -/
def CalS (X : Cx) (g : Addr) (ks : List Str) (r : SpS) : Prop := ∀ (W : WX), Takes X W → ∀ (pins : List (Addr × Obj)) (σ : L2.St) (H : Hp) (s : Shared) (F : List Addr) (M : MM) (Z : XD) (us ws : List Value) (vs zs : List V) (xs ys : List D) (Q : QD),
  Inv X pins σ H s → RMM X.K F H M → KW X.K F H M σ Z W → Vals vs us → Vals zs ws → zs.length = ks.length → RepA X.K (ak F M) H vs xs → RepA X.K (ak F M) H zs ys → r xs ys M Z Q → wpAny (model X.prog X.w) X.A (call (.ref g) us (ks.zip ws)) (EPD X F pins σ H M Q) X.xe s
theorem cal_fn (Fn : FnS X.prog X.w X.K X.mg X.base k f ks sp) (hr : Room k X.A) : CalS X f ks sp := fun W tk pins σ H s F M Z us ws vs zs xs ys Q I mm kx r1 r2 hl a b h => run_fnS tk Fn hr I mm kx r1 r2 hl a b h
def mkSp (Cn : Str) (sp : SpS) : SpS := fun xs ys M Z Q => ∀ p, p ∉ keys M → sp (.ref p :: xs) ys ((p, .obj Cn []) :: M) (fun E fs M3 => Z E fs (drop M3 p)) (fun v M3 => v = .non ∧ Q (.ref p) M3)
@[simp ↓] theorem mkSp_eq (Cn : Str) (sp : SpS) : ∀ xs ys M Z Q, mkSp Cn sp xs ys M Z Q = (∀ p, p ∉ keys M → sp (.ref p :: xs) ys ((p, .obj Cn []) :: M) (fun E fs M3 => Z E fs (drop M3 p)) (fun v M3 => v = .non ∧ Q (.ref p) M3)) := fun _ _ _ _ _ => rfl
theorem cal_mk (Mk1 : Mk X.K (He.ga X.K Cn) f) (Fn : FnS X.prog X.w X.K X.mg X.base k f ks sp) (hr : Room (k + 1) X.A) : CalS X (He.ga X.K Cn) ks (mkSp Cn sp) := fun W tk pins σ H s F M Z us ws vs zs xs ys Q I mm kx r1 r2 hl a b h => run_mkS tk Mk1 Fn hr I mm kx r1 r2 hl a b h
/-- what a callee asks: it is not looked into by itself -/
def ask (sp : SpS) (xs ys : List D) (M : MM) (Z : XD) (Q : QD) : Prop := sp xs ys M Z Q
theorem ask_congr {sp : SpS} {xs xs' ys ys' : List D} {M M' : MM} {Z : XD} {Q : QD} (h1 : xs = xs') (h2 : ys = ys') (h3 : M = M') : ask sp xs ys M Z Q = ask sp xs' ys' M' Z Q := by rw [h1, h2, h3]
def dCallS (sp : SpS) (t tk : TAD) : TD := fun ds M Z Q => t ds M Z fun xs M1 => tk ds M1 Z fun ys M2 => ask sp xs ys M2 Z Q
@[simp ↓] theorem dCallS_eq (sp : SpS) (t tk : TAD) : ∀ ds M Z Q, dCallS sp t tk ds M Z Q = (t ds M Z fun xs M1 => tk ds M1 Z fun ys M2 => ask sp xs ys M2 Z Q) := fun _ _ _ _ => rfl
/-- the data of one state are carried on -/
theorem arg2 {W : WX} {F : List Addr} {H H1 : Hp} {M M1 : MM} {vs : List V} {xs : List D} (st : Stp H (keys M) H1 (keys M1)) (r : RepA X.K (ak F M) H vs xs) : RepA X.K (ak F M1) H1 vs xs := r.step st.fix
/-- x(e, ..) -/
theorem d_call (Cl : CalS X g [] sp) (hk : PySem.W.keepIn X.K (.ref g) = true) (hm : X.mg x = some (.ref g)) (ha : PAD X (e :: es) t) (hg : Gl X x := by rfl) (hdb : (x == ("__debug__" : Str)) = false := by decide)
    (he : notStar e = true := by rfl) (hpl : noStars es = true := by rfl) : PD X (.Call (.Name x p) (e :: es) [] pos) (dCallS sp t dNil) := by
  refine ⟨fun W tks F pins s σ H ds M Z Q I hs ht => ?_⟩
  refine wpAny_Call_Name_kw (ld_glob I hg hm ?_ hdb)
  refine PySem.W.callWith_K (h₀ := X.base) I.ok.mod.kin hk (thn (ha.run W tks pos F pins s σ H ds M Z _ I hs ht) fun us s1 ⟨vs, H1, xs, M1, I1, r, st, mm, rp, q⟩ => ⟨I1.kIn, ?_⟩) (star_cons he) (star_any hpl)
  exact thn (Cl W tks pins σ H1 s1 F M1 Z us [] vs [] xs [] Q I1 mm (hs.kx.on st) r .nil rfl rp .nil q) fun u s' h => EPD.up st h
/-- x(e, .., *y) -/
theorem d_callS (Cl : CalS X g [] sp) (hk : PySem.W.keepIn X.K (.ref g) = true) (hm : X.mg x = some (.ref g)) (ha : PAD X (e :: es) t) (hg : Gl X x := by rfl) (hdb : (x == ("__debug__" : Str)) = false := by decide)
    (he : notStar e = true := by rfl) (hst : es.any (fun e => !notStar e) = true := by rfl) : PD X (.Call (.Name x p) (e :: es) [] pos) (dCallS sp t dNil) := by
  refine ⟨fun W tks F pins s σ H ds M Z Q I hs ht => ?_⟩
  refine wpAny_Call_Name_kw (ld_glob I hg hm ?_ hdb)
  refine PySem.W.callWith_S2 (h₀ := X.base) I.ok.mod.kin hk (thn (ha.run W tks pos F pins s σ H ds M Z _ I hs ht) fun us s1 ⟨vs, H1, xs, M1, I1, r, st, mm, rp, q⟩ => ⟨I1.kIn, ?_⟩) (star_cons he) (star_some hst)
  exact thn (Cl W tks pins σ H1 s1 F M1 Z us [] vs [] xs [] Q I1 mm (hs.kx.on st) r .nil rfl rp .nil q) fun u s' h => EPD.up st h
/-- x() -/
theorem d_call0 (Cl : CalS X g [] sp) (hk : PySem.W.keepIn X.K (.ref g) = true) (hm : X.mg x = some (.ref g)) (hg : Gl X x := by rfl) (hdb : (x == ("__debug__" : Str)) = false := by decide) : PD X (.Call (.Name x p) [] [] pos) (dCallS sp dNil dNil) := by
  refine ⟨fun W tks F pins s σ H ds M Z Q I hs ht => ?_⟩
  refine wpAny_Call_Name_kw (ld_glob I hg hm ?_ hdb)
  exact PySem.W.callWith_K0 I.kIn hk (Cl W tks pins σ H s F M Z [] [] [] [] [] [] Q I hs.mm hs.kx .nil .nil rfl .nil .nil ht)
/-- x(e, .., k = v, ..) -/
theorem d_callK (Cl : CalS X g ks sp) (hk : PySem.W.keepIn X.K (.ref g) = true) (hm : X.mg x = some (.ref g)) (ha : PAD X (e :: es) t) (hkw : PKD X kws tk) (hks : kwsOk kws ks = true := by rfl) (hg : Gl X x := by rfl)
    (hdb : (x == ("__debug__" : Str)) = false := by decide) (hpl : noStars (e :: es) = true := by rfl) :
    PD X (.Call (.Name x p) (e :: es) kws pos) (dCallS (fun xs ys M Z Q => ys.length = ks.length ∧ sp xs ys M Z Q) t tk) := by
  refine ⟨fun W tks F pins s σ H ds M Z Q I hs ht => ?_⟩
  have he : notStar e = true := (Bool.and_eq_true_iff.mp (show (notStar e && es.all notStar) = true from hpl)).1
  refine wpAny_Call_Name_kw (ld_glob I hg hm ?_ hdb)
  refine PySem.W.callWith_KW (h₀ := X.base) I.ok.mod.kin hk (kw_all hks) (thn (ha.run W tks pos F pins s σ H ds M Z _ I hs ht) fun us s1 ⟨vs, H1, xs, M1, I1, r, st, mm, rp, q⟩ => ?_) (by rw [star_any hpl, kw_none hks]; rfl) (star_cons he)
  refine thn (hkw.run W tks pos F pins s1 σ H1 ds M1 Z _ I1 (hs.to st mm) q) fun ws s2 ⟨zs, H2, ys, M2, I2, rz, st2, mm2, rp2, q2⟩ => ⟨I2.kIn, ?_⟩
  rw [kw_ks hks]
  have s12 := st.trans st2
  exact thn (Cl W tks pins σ H2 s2 F M2 Z us ws vs zs xs ys Q I2 mm2 (hs.kx.on s12) r rz (by rw [rp2.len]; exact q2.1) (rp.step st2.fix) rp2 q2.2) fun u s' h => EPD.up s12 h
/-- x(k = v, ..) -/
theorem d_callK0 (Cl : CalS X g ks sp) (hk : PySem.W.keepIn X.K (.ref g) = true) (hm : X.mg x = some (.ref g)) (hkw : PKD X kws tk) (hks : kwsOk kws ks = true := by rfl) (hg : Gl X x := by rfl)
    (hdb : (x == ("__debug__" : Str)) = false := by decide) :
    PD X (.Call (.Name x p) [] kws pos) (dCallS (fun xs ys M Z Q => ys.length = ks.length ∧ sp xs ys M Z Q) dNil tk) := by
  refine ⟨fun W tks F pins s σ H ds M Z Q I hs ht => ?_⟩
  refine wpAny_Call_Name_kw (ld_glob I hg hm ?_ hdb)
  refine PySem.W.callWith_KW0 (h₀ := X.base) I.ok.mod.kin hk (kw_all hks) ?_ (by rw [star_any (es := []) rfl, kw_none hks]; rfl)
  refine thn (hkw.run W tks pos F pins s σ H ds M Z _ I hs ht) fun ws s2 ⟨zs, H2, ys, M2, I2, rz, st2, mm2, rp2, q2⟩ => ⟨I2.kIn, ?_⟩
  rw [kw_ks hks]
  exact thn (Cl W tks pins σ H2 s2 F M2 Z [] ws [] zs [] ys Q I2 mm2 (hs.kx.on st2) .nil rz (by rw [rp2.len]; exact q2.1) .nil rp2 q2.2) fun u s' h => EPD.up st2 h
/-! ### stars -/
def dStar (te : TD) (t : TAD) : TAD := fun ds M Z Q => te ds M Z fun d M1 => match d with
  | .lst xs => t ds M1 Z fun ys M2 => Q (xs ++ ys) M2
  | .tup xs => t ds M1 Z fun ys M2 => Q (xs ++ ys) M2
  | _ => False
@[simp ↓] theorem dStar_eq (te : TD) (t : TAD) : ∀ ds M Z Q, dStar te t ds M Z Q = (te ds M Z fun d M1 => match d with
  | .lst xs => t ds M1 Z fun ys M2 => Q (xs ++ ys) M2
  | .tup xs => t ds M1 Z fun ys M2 => Q (xs ++ ys) M2
  | _ => False) := fun _ _ _ _ => rfl
theorem ad_star (he : PD X e te) (hr : PAD X es t) : PAD X (.Starred e p :: es) (dStar te t) := by
  have hs : starEach (.Starred e p :: es) X.env = (true, eval e X.env) :: starEach es X.env := by simp [starEach]
  refine ⟨fun W tks pos F pins s σ H ds M Z Q I hst ht => ?_⟩
  refine PySem.W.items_star (thn (he.run W tks F pins s σ H ds M Z _ I hst ht) fun v s1 ⟨y, H1, d, M1, I1, ry, st, mm, rp, q⟩ => ?_) hs
  have main : ∀ (a : Addr) (vs : List V) (xs : List D), y = .ref a → (SqT X.K H1 a vs ∨ SqL X.K H1 a vs) → RepA X.K (ak F M1) H1 vs xs → t ds M1 Z (fun ys M2 => Q (xs ++ ys) M2) →
      PySem.W.StarOf (model X.prog X.w) X.A X.xe v (fun here s₂ => wpAny (model X.prog X.w) X.A (spliced (backTo pos (starEach es X.env))) (fun vs s₃ => ∃ ws H' zs M', Inv X pins σ H' s₃ ∧ Vals ws (here ++ vs) ∧ Stp H (keys M) H' (keys M') ∧ RMM X.K F H' M' ∧ RepA X.K (ak F M') H' ws zs ∧ Q zs M') X.xe s₂) s1 := by
    intro a vs xs ey hx r q
    subst ey
    obtain rfl : v = Value.ref a := ry
    refine StX.star_any I1 hx fun us s2 I2 rv => ?_
    exact thn (hr.run W tks pos F pins s2 σ H1 ds M1 Z _ I2 (hst.to st mm) q) fun ws s3 ⟨vs2, H3, zs, M3, I3, r3, st3, mm3, rp3, q3⟩ => ⟨vs ++ vs2, H3, xs ++ zs, M3, I3, rv.append r3, st.trans st3, mm3, (r.step st3.fix).append rp3, q3⟩
  cases d with
  | lst xs => cases rp with
    | lst hx r => exact main _ _ _ rfl (.inr hx.sq) r q
  | tup xs => cases rp with
    | tup hx r => exact main _ _ _ rfl (.inl hx.sq) r q
  | _ => exact (show False from q).elim
/-- x(*y) -/
def dCallS1 (sp : SpS) (te : TD) : TD := fun ds M Z Q => te ds M Z fun d M1 => match d with
  | .lst xs => ask sp xs [] M1 Z Q
  | .tup xs => ask sp xs [] M1 Z Q
  | _ => False
@[simp ↓] theorem dCallS1_eq (sp : SpS) (te : TD) : ∀ ds M Z Q, dCallS1 sp te ds M Z Q = (te ds M Z fun d M1 => match d with
  | .lst xs => ask sp xs [] M1 Z Q
  | .tup xs => ask sp xs [] M1 Z Q
  | _ => False) := fun _ _ _ _ => rfl
theorem d_callS1 (Cl : CalS X g [] sp) (hk : PySem.W.keepIn X.K (.ref g) = true) (hm : X.mg x = some (.ref g)) (he : PD X e te) {sp_ : Pos} (hg : Gl X x := by rfl) (hdb : (x == ("__debug__" : Str)) = false := by decide) : PD X (.Call (.Name x p) [.Starred e sp_] [] pos) (dCallS1 sp te) := by
  have hst : starEach [.Starred e sp_] X.env = [(true, eval e X.env)] := by simp [starEach]
  refine ⟨fun W tks F pins s σ H ds M Z Q I hs ht => ?_⟩
  refine wpAny_Call_Name_kw (ld_glob I hg hm ?_ hdb)
  refine PySem.W.callWith_S (h₀ := X.base) I.ok.mod.kin hk (thn (he.run W tks F pins s σ H ds M Z _ I hs ht) fun v s1 ⟨y, H1, d, M1, I1, ry, st, mm, rp, q⟩ => ?_) hst
  have main : ∀ (a : Addr) (vs : List V) (xs : List D), y = .ref a → (SqT X.K H1 a vs ∨ SqL X.K H1 a vs) → RepA X.K (ak F M1) H1 vs xs → sp xs [] M1 Z Q →
      PySem.W.StarOf (model X.prog X.w) X.A X.xe v (fun vs s₂ => X.K.In s₂.heap ∧ wpAny (model X.prog X.w) X.A (call (.ref g) ([] ++ vs)) (EPD X F pins σ H M Q) X.xe s₂) s1 := by
    intro a vs xs ey hx r q
    subst ey
    obtain rfl : v = Value.ref a := ry
    refine StX.star_any I1 hx fun us s2 I2 rv => ⟨I2.kIn, ?_⟩
    exact thn (Cl W tks pins σ H1 s2 F M1 Z us [] vs [] xs [] Q I2 mm (hs.kx.on st) rv .nil rfl r .nil q) fun u s' h => EPD.up st h
  cases d with
  | lst xs => cases rp with
    | lst hx r => exact main _ _ _ rfl (.inr hx.sq) r q
  | tup xs => cases rp with
    | tup hx r => exact main _ _ _ rfl (.inl hx.sq) r q
  | _ => exact (show False from q).elim
end
end L2.Dl

namespace L2.Dl
open PySem PySem.Spec PyProof.Rows
section
variable {X : Cx} {a b c o e : Expr} {es : List Expr} {ta tb tc to te : TD} {t : TAD} {pos apos cpos : Pos}
def dLstM (t : TAD) : TD := fun ds M Z Q => t ds M Z fun xs M1 => xs.length ≤ sizeLine ∧ ∀ p, p ∉ keys M1 → Q (.ref p) ((p, .lst xs) :: M1)
@[simp ↓] theorem dLstM_eq (t : TAD) : ∀ ds M Z Q, dLstM t ds M Z Q = (t ds M Z fun xs M1 => xs.length ≤ sizeLine ∧ ∀ p, p ∉ keys M1 → Q (.ref p) ((p, .lst xs) :: M1)) := fun _ _ _ _ => rfl
theorem d_lstM (h : PAD X es t) : PD X (.List es pos) (dLstM t) := by
  refine PD.of (fun W tk => pe_lst (h.pa tk)) fun W F σ H ds M Z Q hs ht => ?_
  refine ⟨F, ds, M, _, _, hs, ht, fun vs H1 xs M1 st mm rp q => ⟨by rw [rp.len]; exact q.1, fun p hp => ?_⟩⟩
  have hn := mm.notin hp
  rw [List.mem_append, not_or] at hn
  exact ⟨_, (p, .lst xs) :: M1, st.trans (stp_cons hp), mm.consL hp rp, .ref p, q.2 p hn.1⟩
@[simp] def frzO : MO → Option D
  | .lst xs => some (.lst xs) | .obj C fs => some (.obj C fs) | .dK fs => some (.dK fs) | .dT fs => some (.dT fs) | .bag => none | .tab _ => none | .tup xs => some (.tup xs)
/-- a thing that is done changing -/
def dFrz (t : TD) : TD := fun ds M Z Q => t ds M Z fun d M1 => match d with
  | .ref p => optK ((M1.lookup p).bind frzO) fun d => letK (drop M1 p) fun M2 => Q d M2
  | _ => False
@[simp ↓] theorem dFrz_eq (t : TD) : ∀ ds M Z Q, dFrz t ds M Z Q = (t ds M Z fun d M1 => match d with
  | .ref p => optK ((M1.lookup p).bind frzO) fun d => letK (drop M1 p) fun M2 => Q d M2
  | _ => False) := fun _ _ _ _ => rfl
theorem frz_ok {K : PySem.W.Frag} {F : List Addr} {H : Hp} {M : MM} {p : Addr} {mo : MO} (m : RMM K F H M) (h : M.lookup p = some mo) : p ∉ ak F (drop M p) ∧ RepO K (ak F (drop M p)) H p mo := by
  refine ⟨fun z => ?_, (m.get h).step stp_drop.fix rfl⟩
  rcases List.mem_append.mp z with z | z
  · exact (drop_sub z).2 rfl
  · exact (m.fd p z).1 (lookup_key h)
theorem d_frz (h : PD X e te) : PD X e (dFrz te) := by
  refine ⟨fun W tk F pins s σ H ds M Z Q I hs ht => ?_⟩
  refine thn (h.run W tk F pins s σ H ds M Z _ I hs ht) fun u s' hh => ?_
  obtain ⟨v, H', d, M', I', r, st, mm, rp, q⟩ := hh
  cases d with
  | ref p =>
    cases rp
    have q : optK ((M'.lookup p).bind frzO) fun d => Q d (drop M' p) := q
    cases e1 : M'.lookup p with
    | none => rw [e1] at q; exact q.elim
    | some mo =>
      rw [e1] at q
      cases mo with
      | lst xs =>
        obtain ⟨n, vs, h1, h2⟩ := frz_ok mm e1
        exact ⟨_, H', _, drop M' p, I', r, st.trans stp_drop, mm.drop p, .lst ⟨n, h1⟩ h2, q⟩
      | obj C fs =>
        obtain ⟨n, dx, vs, h1, h2⟩ := frz_ok mm e1
        exact ⟨_, H', _, drop M' p, I', r, st.trans stp_drop, mm.drop p, .obj n h1 h2, q⟩
      | dK fs =>
        obtain ⟨n, vs, h1, h2⟩ := frz_ok mm e1
        exact ⟨_, H', _, drop M' p, I', r, st.trans stp_drop, mm.drop p, .dK n h1 h2, q⟩
      | dT fs =>
        obtain ⟨n, vs, h1, h2⟩ := frz_ok mm e1
        exact ⟨_, H', _, drop M' p, I', r, st.trans stp_drop, mm.drop p, .dT n h1 h2, q⟩
      | bag => exact q.elim
      | tab _ => exact q.elim
      | tup xs =>
        obtain ⟨n, vs, h1, h2⟩ := frz_ok mm e1
        exact ⟨_, H', _, drop M' p, I', r, st.trans stp_drop, mm.drop p, .tup (.inl ⟨n, h1⟩) h2, q⟩
  | _ => exact (show False from q).elim

/-! ### methods of built-in types -/
@[simp] def tyM : D → MM → Option String
  | .str _, _ => some "str"
  | .int _, _ => some "int"
  | .lst _, _ => some "list"
  | .ref p, M => (match M.lookup p with | some (.lst _) => some "list" | _ => none)
  | _, _ => none
theorem tyM_ok {K : PySem.W.Frag} {F : List Addr} {H : Hp} {M : MM} {v : V} {d : D} {T : String} (m : RMM K F H M) (r : Rep K (ak F M) H v d) (h : tyM d M = some T) : tyV K T v H := by
  cases r with
  | str x => cases h; rfl
  | int i => cases h; rfl
  | lst hx r => cases h; exact .inl ⟨rfl, _, hx.sq⟩
  | ref p =>
    have h : (match M.lookup p with | some (.lst _) => some "list" | _ => none) = some T := h
    split at h
    · rename_i xs e
      cases h
      obtain ⟨vs, h1, _⟩ := m.get e
      exact .inl ⟨rfl, vs, .inl (.inl h1)⟩
    · cases h
  | _ => cases h
abbrev RMD := D → List D → MM → QD → Prop
def MtD (X : Cx) (id : String) (r : RMD) : Prop := ∃ rv, MtR X id rv ∧ ∀ F H M x vs dx xs Q QV, RMM X.K F H M → Rep X.K (ak F M) H x dx → RepA X.K (ak F M) H vs xs → r dx xs M Q → KQ X.K F H M Q QV → rv x vs H QV
def dBM (T : String) (r : RMD) (to : TD) (t : TAD) : TD := fun ds M Z Q => to ds M Z fun x M1 => tyM x M1 = some T ∧ t ds M1 Z fun xs M2 => r x xs M2 Q
@[simp ↓] theorem dBM_eq (T : String) (r : RMD) (to : TD) (t : TAD) : ∀ ds M Z Q, dBM T r to t ds M Z Q = (to ds M Z fun x M1 => tyM x M1 = some T ∧ t ds M1 Z fun xs M2 => r x xs M2 Q) := fun _ _ _ _ => rfl
theorem d_bm {T : String} {name : Str} {id : String} {r : RMD} (pa : PlainAttrs T) (slot : Slot T name id) (hty : typeOf (.builtin id) = pure (.type "method_descriptor")) (hm : MtD X id r) (ho : PD X o to) (ha : PAD X (e :: es) t)
    (hbase : attributeBase o name X.env (eval o X.env) = eval o X.env := by rfl)
    (hfew : decide ((e :: es).length < 30) = true := by rfl) (hline : (apos.endLine == cpos.line) = true := by rfl) (hpl : noStars (e :: es) = true := by rfl) :
    PD X (.Call (.Attribute o name apos) (e :: es) [] cpos) (dBM T r to t) := by
  have he : notStar e = true := (Bool.and_eq_true_iff.mp (show (notStar e && es.all notStar) = true from hpl)).1
  have hes : noStars es = true := (Bool.and_eq_true_iff.mp (show (notStar e && es.all notStar) = true from hpl)).2
  obtain ⟨rv, m, hr⟩ := hm
  refine PD.of (fun W tk => pe_bm pa slot hty m (ho.pe tk) (ha.pa tk) hbase (by rw [star_all hpl, kw_each]; simpa [backToKw] using hfew) hline (star_cons he) (star_any hes)) fun W F σ H ds M Z Q hst ht => ?_
  refine ⟨F, ds, M, _, _, hst, ht, fun v H1 d M1 st mm rp q => ⟨tyM_ok mm rp q.1, ?_⟩⟩
  refine ⟨F, ds, M1, _, _, hst.to st mm, q.2, fun vs H2 xs M2 st2 mm2 rp2 q2 => ?_⟩
  exact hr F H2 M2 v vs d xs Q _ mm2 (rp.step st2.fix) rp2 q2 (KQ.eq.on (st.trans st2))
theorem d_bm0 {T : String} {name : Str} {id : String} {r : RMD} (pa : PlainAttrs T) (slot : Slot T name id) (hty : typeOf (.builtin id) = pure (.type "method_descriptor")) (hm : MtD X id r) (ho : PD X o to)
    (hbase : attributeBase o name X.env (eval o X.env) = eval o X.env := by rfl) (hline : (apos.endLine == cpos.line) = true := by rfl) : PD X (.Call (.Attribute o name apos) [] [] cpos) (dBM T r to dNil) := by
  obtain ⟨rv, m, hr⟩ := hm
  refine PD.of (fun W tk => pe_bm0 pa slot hty m (ho.pe tk) hbase hline) fun W F σ H ds M Z Q hst ht => ?_
  refine ⟨F, ds, M, _, _, hst, ht, fun v H1 d M1 st mm rp q => ⟨tyM_ok mm rp q.1, ?_⟩⟩
  exact hr F H1 M1 v [] d [] Q _ mm rp .nil q.2 (KQ.eq.on st)
def dAppend : RMD := fun x xs M Q => match x, xs with
  | .ref p, [d] => lstK (M.lookup p) fun ys => ys.length < sizeLine ∧ letK (put M p (.lst (ys ++ [d]))) fun M' => Q .non M'
  | _, _ => False
@[simp ↓] theorem dAppend_eq : ∀ x xs M Q, dAppend x xs M Q = (match x, xs with
  | .ref p, [d] => lstK (M.lookup p) fun ys => ys.length < sizeLine ∧ letK (put M p (.lst (ys ++ [d]))) fun M' => Q .non M'
  | _, _ => False) := fun _ _ _ _ => rfl
theorem m_append : MtD X "list.append" dAppend := by
  refine ⟨_, mt_append, fun F H M x vs dx xs Q QV mm rx rp hr k => ?_⟩
  match dx, xs, hr with
  | .ref p, [d], hr =>
    cases rx
    obtain ⟨v, rfl, r⟩ := repA1 rp
    have hr : lstK (M.lookup p) (fun ys => ys.length < sizeLine ∧ Q .non (put M p (.lst (ys ++ [d])))) := hr
    unfold lstK at hr
    split at hr
    · rename_i ys e
      obtain ⟨ws, h1, h2⟩ := mm.get e
      have hk := lookup_key e
      exact ⟨p, ws, v, rfl, rfl, h1, by rw [h2.len]; exact hr.1, k.put mm hk (RMM.putL hk (h2.append (.cons r .nil))) .non hr.2⟩
    · exact hr.elim
def dInsert : RMD := fun x xs M Q => match x, xs with
  | .ref p, [.int i, d] => lstK (M.lookup p) fun ys => ys.length < sizeLine ∧ 0 ≤ i ∧ i < 2 ^ 63 ∧ letK (put M p (.lst (ys.take i.toNat ++ [d] ++ ys.drop i.toNat))) fun M' => Q .non M'
  | _, _ => False
@[simp ↓] theorem dInsert_eq : ∀ x xs M Q, dInsert x xs M Q = (match x, xs with
  | .ref p, [.int i, d] => lstK (M.lookup p) fun ys => ys.length < sizeLine ∧ 0 ≤ i ∧ i < 2 ^ 63 ∧ letK (put M p (.lst (ys.take i.toNat ++ [d] ++ ys.drop i.toNat))) fun M' => Q .non M'
  | _, _ => False) := fun _ _ _ _ => rfl
theorem m_insert : MtD X "list.insert" dInsert := by
  refine ⟨_, mt_insert, fun F H M x vs dx xs Q QV mm rx rp hr k => ?_⟩
  match dx, xs, hr with
  | .ref p, [.int i, d], hr =>
    cases rx
    obtain ⟨v, w, rfl, r1, r2⟩ := repA2 rp
    cases r1
    have hr : lstK (M.lookup p) (fun ys => ys.length < sizeLine ∧ 0 ≤ i ∧ i < 2 ^ 63 ∧ Q .non (put M p (.lst (ys.take i.toNat ++ [d] ++ ys.drop i.toNat)))) := hr
    unfold lstK at hr
    split at hr
    · rename_i ys e
      obtain ⟨ws, h1, h2⟩ := mm.get e
      have hk := lookup_key e
      exact ⟨p, ws, i, w, rfl, rfl, h1, by rw [h2.len]; exact hr.1, hr.2.1, hr.2.2.1, k.put mm hk (RMM.putL hk (((h2.take _).append (.cons r2 .nil)).append (h2.drop _))) .non hr.2.2.2⟩
    · exact hr.elim
def dExtend : RMD := fun x xs M Q => match x, xs with
  | .ref p, [.lst zs] => lstK (M.lookup p) fun ys => ys.length + zs.length ≤ sizeLine ∧ letK (put M p (.lst (ys ++ zs))) fun M' => Q .non M'
  | _, _ => False
@[simp ↓] theorem dExtend_eq : ∀ x xs M Q, dExtend x xs M Q = (match x, xs with
  | .ref p, [.lst zs] => lstK (M.lookup p) fun ys => ys.length + zs.length ≤ sizeLine ∧ letK (put M p (.lst (ys ++ zs))) fun M' => Q .non M'
  | _, _ => False) := fun _ _ _ _ => rfl
theorem m_extend : MtD X "list.extend" dExtend := by
  refine ⟨_, mt_extend, fun F H M x vs dx xs Q QV mm rx rp hr k => ?_⟩
  match dx, xs, hr with
  | .ref p, [.lst zs], hr =>
    cases rx
    obtain ⟨v, rfl, r⟩ := repA1 rp
    have hr : lstK (M.lookup p) (fun ys => ys.length + zs.length ≤ sizeLine ∧ Q .non (put M p (.lst (ys ++ zs)))) := hr
    unfold lstK at hr
    split at hr
    · rename_i ys e
      obtain ⟨ws, h1, h2⟩ := mm.get e
      have hk := lookup_key e
      cases r with
      | lst hx r => exact ⟨p, _, ws, _, rfl, rfl, h1, hx.2, by rw [h2.len, r.len]; exact hr.1, k.put mm hk (RMM.putL hk (h2.append r)) .non hr.2⟩
    · exact hr.elim
@[simp] def strsD : List D → Option (List Str)
  | [] => some []
  | .str b :: r => (strsD r).map (b :: ·)
  | _ => none
theorem strsD_map (bs : List Str) : strsD (bs.map D.str) = some bs := by
  induction bs with
  | nil => rfl
  | cons b r ih => show (strsD (r.map D.str)).map (b :: ·) = _; rw [ih]; rfl
theorem RepA.strs {K : PySem.W.Frag} {B : List Addr} {H : Hp} : ∀ {vs : List V} {ds : List D} {bs : List Str}, RepA K B H vs ds → strsD ds = some bs → vs = bs.map V.str
  | _, _, _, .nil, e => by cases e; rfl
  | _, _, _, @RepA.cons _ _ _ v vs d ds h r, e => by
    cases d with
    | str b =>
      cases h
      simp only [strsD, Option.map_eq_some_iff] at e
      obtain ⟨q, h1, rfl⟩ := e
      rw [RepA.strs r h1]
      rfl
    | _ => cases e
theorem repA_strs {K : PySem.W.Frag} {B : List Addr} {H : Hp} : ∀ (bs : List Str), bs.all PyData.strOk = true → RepA K B H (bs.map V.str) (bs.map D.str)
  | [], _ => .nil
  | b :: r, h => by
    rw [List.all_cons, Bool.and_eq_true] at h
    exact .cons (.str b h.1) (repA_strs r h.2)
theorem RepA.oks {K : PySem.W.Frag} {B : List Addr} {H : Hp} : ∀ {vs : List V} {ds : List D} {bs : List Str}, RepA K B H vs ds → strsD ds = some bs → ∀ b ∈ bs, PyData.strOk b = true
  | _, _, _, .nil, e => by cases e; simp
  | _, _, _, @RepA.cons _ _ _ v vs d ds h r, e => by
    cases d with
    | str b =>
      simp only [strsD, Option.map_eq_some_iff] at e
      obtain ⟨q, h1, rfl⟩ := e
      cases h with
      | str _ hb =>
        intro c hc
        rcases List.mem_cons.mp hc with e | hc
        · subst e; exact hb
        · exact RepA.oks r h1 c hc
    | _ => simp [strsD] at e
theorem okS_join {a : Str} (ha : PyData.strOk a = true) : ∀ {ss : List Str}, (∀ b ∈ ss, PyData.strOk b = true) → PyData.strOk (Str.join a ss) = true
  | [], _ => (by decide +kernel : PyData.strOk Str.empty = true)
  | [b], h => h b List.mem_cons_self
  | b :: c :: r, h => okS_app (okS_app (h b List.mem_cons_self) ha) (okS_join ha fun d hd => h d (List.mem_cons_of_mem _ hd))
def dJoin : RMD := fun x xs M Q => match x, xs with
  | .str a, [.lst ys] => optK (strsD ys) fun ss => (ss.map (·.length)).sum + ss.length * a.length ≤ 16777216 ∧ Q (.str (Str.join a ss)) M
  | .str a, [.tup ys] => optK (strsD ys) fun ss => (ss.map (·.length)).sum + ss.length * a.length ≤ 16777216 ∧ Q (.str (Str.join a ss)) M
  | _, _ => False
@[simp ↓] theorem dJoin_eq : ∀ x xs M Q, dJoin x xs M Q = (match x, xs with
  | .str a, [.lst ys] => optK (strsD ys) fun ss => (ss.map (·.length)).sum + ss.length * a.length ≤ 16777216 ∧ Q (.str (Str.join a ss)) M
  | .str a, [.tup ys] => optK (strsD ys) fun ss => (ss.map (·.length)).sum + ss.length * a.length ≤ 16777216 ∧ Q (.str (Str.join a ss)) M
  | _, _ => False) := fun _ _ _ _ => rfl
theorem m_join : MtD X "str.join" dJoin := by
  refine ⟨_, mt_join, fun F H M x vs dx xs Q QV mm rx rp hr k => ?_⟩
  match dx, xs, hr with
  | .str a, [.lst ys], hr =>
    have ha : PyData.strOk a = true := by cases rx with | str _ h => exact h
    cases rx
    obtain ⟨v, rfl, r⟩ := repA1 rp
    have hr : optK (strsD ys) (fun ss => (ss.map (·.length)).sum + ss.length * a.length ≤ 16777216 ∧ Q (.str (Str.join a ss)) M) := hr
    unfold optK at hr
    split at hr
    · rename_i ss e
      cases r with
      | lst hx r =>
        have e2 := r.strs e
        subst e2
        exact ⟨a, _, ss, rfl, rfl, .inl hx.sq, hr.1, by rw [TL.join_eq]; exact k.at mm (.str _ (okS_join ha (r.oks e))) hr.2⟩
    · exact hr.elim
  | .str a, [.tup ys], hr =>
    have ha : PyData.strOk a = true := by cases rx with | str _ h => exact h
    cases rx
    obtain ⟨v, rfl, r⟩ := repA1 rp
    have hr : optK (strsD ys) (fun ss => (ss.map (·.length)).sum + ss.length * a.length ≤ 16777216 ∧ Q (.str (Str.join a ss)) M) := hr
    unfold optK at hr
    split at hr
    · rename_i ss e
      cases r with
      | tup hx r =>
        have e2 := r.strs e
        subst e2
        exact ⟨a, _, ss, rfl, rfl, .inr hx.sq, hr.1, by rw [TL.join_eq]; exact k.at mm (.str _ (okS_join ha (r.oks e))) hr.2⟩
    · exact hr.elim
def dSplit : RMD := fun x xs M Q => match x, xs with
  | .str a, [.str b] => (b.length == 0) = false ∧ a.length + 2 ≤ sizeLine ∧ (Txt.split a b).all PyData.strOk = true ∧ Q (.lst ((Txt.split a b).map D.str)) M
  | _, _ => False
@[simp ↓] theorem dSplit_eq : ∀ x xs M Q, dSplit x xs M Q = (match x, xs with
  | .str a, [.str b] => (b.length == 0) = false ∧ a.length + 2 ≤ sizeLine ∧ (Txt.split a b).all PyData.strOk = true ∧ Q (.lst ((Txt.split a b).map D.str)) M
  | _, _ => False) := fun _ _ _ _ => rfl
theorem m_split : MtD X "str.split" dSplit := by
  refine ⟨_, mt_split, fun F H M x vs dx xs Q QV mm rx rp hr k => ?_⟩
  match dx, xs, hr with
  | .str a, [.str b], hr =>
    cases rx
    obtain ⟨v, rfl, r⟩ := repA1 rp
    cases r
    exact ⟨a, b, rfl, rfl, hr.1, hr.2.1, k.newL mm (repA_strs _ hr.2.2.1) hr.2.2.2⟩

/-! ### slices -/
abbrev TOD := SD → MM → XD → (Option Int → MM → Prop) → Prop
structure POD (X : Cx) (e : Option Expr) (t : TOD) : Prop where
  run : ∀ W, Takes X W → ∃ tv, PO X e tv ∧ ∀ F σ H ds M Z Q, Stt X.K W F H σ ds M Z → t ds M Z Q → ∀ QV : Option Int → Hp → Prop, (∀ o H' M', Stp H (keys M) H' (keys M') → RMM X.K F H' M' → Q o M' → QV o H') → tv σ H QV
def dNoPart : TOD := fun _ M _ Q => Q none M
@[simp ↓] theorem dNoPart_eq : ∀ w0 M w2 Q, dNoPart w0 M w2 Q = (Q none M) := fun _ _ _ _ => rfl
def dPart (t : TD) : TOD := fun ds M Z Q => t ds M Z fun x M1 => match x with | .int i => Q (some i) M1 | _ => False
@[simp ↓] theorem dPart_eq (t : TD) : ∀ ds M Z Q, dPart t ds M Z Q = (t ds M Z fun x M1 => match x with | .int i => Q (some i) M1 | _ => False) := fun _ _ _ _ => rfl
theorem od_none : POD X none dNoPart := ⟨fun W tk => ⟨_, po_none, fun F σ H ds M Z Q hs ht QV k => k none H M (.refl _ _) hs.mm ht⟩⟩
theorem od_some (h : PD X e te) : POD X (some e) (dPart te) := by
  refine ⟨fun W tk => ?_⟩
  refine ⟨_, po_some (h.pe tk), fun F σ H ds M Z Q hs ht QV k => ?_⟩
  refine ⟨F, ds, M, _, _, hs, ht, fun v H' d M' st mm rp q => ?_⟩
  cases d with
  | int i => cases rp; exact ⟨i, rfl, k _ H' M' st mm q⟩
  | _ => exact (show False from q).elim
def cutD {α : Type} (xs : List α) (lo hi : Option Int) : List α := (xs.drop (HT.sIx xs.length 0 lo)).take (HT.sIx xs.length xs.length hi - HT.sIx xs.length 0 lo)
theorem RepA.cut {K : PySem.W.Frag} {B : List Addr} {H : Hp} {vs : List V} {xs : List D} (r : RepA K B H vs xs) (lo hi : Option Int) : RepA K B H (cutV vs lo hi) (cutD xs lo hi) := by
  unfold cutV cutD
  rw [r.len]
  exact (r.drop _).take _
theorem cutD_whole {α : Type} {xs : List α} {lo hi : Option Int} (h : HT.sIx xs.length 0 lo = 0 ∧ HT.sIx xs.length xs.length hi = xs.length) : cutD xs lo hi = xs := by
  unfold cutD
  rw [h.1, h.2]
  simp
@[simp] def dSlR (x : D) (lo hi : Option Int) (M : MM) (Q : QD) : Prop := match x with
  | .lst xs => Q (.lst (cutD xs lo hi)) M
  | .tup xs => Q (.tup (cutD xs lo hi)) M
  | .str z => z.length ≤ sizeLine ∧ Q (.str (cutS z lo hi)) M
  | .scr ns => Q (.lst ((cutD ns lo hi).map D.int)) M
  | _ => False
def dSl (te : TD) (tl th : TOD) : TD := fun ds M Z Q => te ds M Z fun x M1 => tl ds M1 Z fun l M2 => th ds M2 Z fun u M3 => dSlR x l u M3 Q
@[simp ↓] theorem dSl_eq (te : TD) (tl th : TOD) : ∀ ds M Z Q, dSl te tl th ds M Z Q = (te ds M Z fun x M1 => tl ds M1 Z fun l M2 => th ds M2 Z fun u M3 => dSlR x l u M3 Q) := fun _ _ _ _ => rfl
theorem repA_ints {K : PySem.W.Frag} {B : List Addr} {H : Hp} : ∀ (ns : List Int), RepA K B H (ns.map V.int) (ns.map D.int)
  | [] => .nil
  | b :: r => .cons (.int b) (repA_ints r)
theorem d_slice {lo hi : Option Expr} {tl th : TOD} {p2 : Pos} (he : PD X e te) (hl : POD X lo tl) (hu : POD X hi th) : PD X (.Subscript e (.Slice lo hi none p2) pos) (dSl te tl th) := by
  refine ⟨fun W tk F pins s σ H ds M Z Q I hs ht => ?_⟩
  obtain ⟨vl, pl, hl⟩ := hl.run W tk
  obtain ⟨vu, pu, hu⟩ := hu.run W tk
  suffices h : _ from thn ((pe_slice (SlR.or sl_list (SlR.or sl_tupA sl_str)) (he.pe tk) pl pu).run pins s σ H (EQ X.K F H M Q) I h) fun u s' hh => by
    obtain ⟨v, H', I', r, d, M', st, mm, rp, q⟩ := hh
    exact ⟨v, H', d, M', I', r, st, mm, rp, q⟩
  refine ⟨F, ds, M, _, _, hs, ht, fun v H1 d M1 st mm rp q => ?_⟩
  refine hl F σ H1 ds M1 _ _ (hs.to st mm) q _ fun l H2 M2 st2 mm2 q2 => ?_
  refine hu F σ H2 ds M2 _ _ (hs.to (st.trans st2) mm2) q2 _ fun u H3 M3 st3 mm3 q3 => ?_
  have rp3 := (rp.step st2.fix).step st3.fix
  have k := (KQ.eq (K := X.K) (F := F) (H := H) (M := M) (Q := Q)).on ((st.trans st2).trans st3)
  cases d with
  | lst xs =>
    cases rp3 with
    | lst hx r => exact .inl ⟨_, _, rfl, hx.sq, k.newL mm3 (r.cut l u) q3⟩
  | tup xs =>
    cases rp3 with
    | tup hx r =>
      refine .inr (.inl ⟨_, _, rfl, hx.sq, fun hw => ?_, fun hw => k.newT mm3 (r.cut l u) q3⟩)
      refine k.at mm3 (.tup hx r) ?_
      have q4 : Q (.tup (cutD xs l u)) M3 := q3
      rw [cutD_whole (by rw [← r.len]; exact hw)] at q4
      exact q4
  | str z =>
    cases rp3 with
    | str _ hz => exact .inr (.inr ⟨z, rfl, q3.1, k.at mm3 (.str _ (okS_sub hz fun c hc => List.mem_of_mem_drop (List.mem_of_mem_take hc))) q3.2⟩)
  | scr ns =>
    cases rp3 with
    | scr hx =>
      refine .inl ⟨_, _, rfl, hx.sq, fun p hp => ?_⟩
      have e : cutV (ns.map V.int) l u = (cutD ns l u).map V.int := by
        unfold cutV cutD
        rw [List.length_map, List.map_take, List.map_drop]
      rw [e]
      exact k.newL mm3 (repA_ints _) q3 p hp
  | _ => exact (show False from q3).elim
end
end L2.Dl

namespace L2.Dl
open PySem PySem.Spec PyProof.Rows
section
variable {X : Cx} {a b c : Expr} {ta tb tc : TD} {pos : Pos}
/-! ### isinstance -/
@[simp] def tyN : D → Option String
  | .non => some "NoneType" | .bl _ => some "bool" | .int _ => some "int" | .str _ => some "str" | .lst _ => some "list" | .tup _ => some "tuple" | _ => none
theorem Rep.tyx {K : PySem.W.Frag} {B : List Addr} {H : Hp} {v : V} {d : D} {n : String} (r : Rep K B H v d) (h : tyN d = some n) : TyX K H v (.type n) := by
  cases r with
  | non => cases h; exact .base .non
  | bl b => cases h; exact .base (.bl b)
  | int i => cases h; exact .base (.int i)
  | str x => cases h; exact .base (.str x)
  | lst hx r => cases h; exact .base (.lst hx.2)
  | tup hx r =>
    cases h
    rcases hx with ⟨_, hx⟩ | ⟨o, its, m, hk, hc, _⟩
    · exact .base (.tup hx)
    · exact .kTuple hk hc
  | _ => cases h
@[simp] def isiN (a : String) (n : String) : Bool := a == n || (a == "bool" && n == "int")
@[simp] def knownT : List String := ["int", "bool", "str", "list", "tuple"]
theorem kit_all : ∀ a ∈ ["NoneType", "bool", "int", "str", "list", "tuple"], ∀ n ∈ knownT, kitB a n = some (isiN a n) := by decide +kernel
theorem tyN_mem {d : D} {n : String} (h : tyN d = some n) : n ∈ ["NoneType", "bool", "int", "str", "list", "tuple"] := by
  cases d <;> simp [tyN] at h <;> subst h <;> decide
/-- isinstance(x, T), isinstance(x, (T, U)) of data -/
def dIsi : RCD := fun xs M Q => match xs with
  | [x, .ty n] => (match tyN x with | some a => n ∈ knownT ∧ Q (.bl (isiN a n)) M | none => False)
  | [x, .tup [.ty n, .ty m]] => (match tyN x with | some a => n ∈ knownT ∧ m ∈ knownT ∧ Q (.bl (isiN a n || isiN a m)) M | none => False)
  | _ => False
@[simp ↓] theorem dIsi_eq : ∀ xs M Q, dIsi xs M Q = (match xs with
  | [x, .ty n] => (match tyN x with | some a => n ∈ knownT ∧ Q (.bl (isiN a n)) M | none => False)
  | [x, .tup [.ty n, .ty m]] => (match tyN x with | some a => n ∈ knownT ∧ m ∈ knownT ∧ Q (.bl (isiN a n || isiN a m)) M | none => False)
  | _ => False) := fun _ _ _ => rfl
theorem CallR.or {f : Value} {r r' : List V → Hp → VK → Prop} (h : CallR X f r) (h' : CallR X f r') : CallR X f (fun xs H Q => r xs H Q ∨ r' xs H Q) := by
  intro pins s σ H xs us Q I rx q
  rcases q with q | q
  · exact h pins s σ H xs us Q I rx q
  · exact h' pins s σ H xs us Q I rx q
theorem k_isi : CallD X (.builtin "isinstance") dIsi := by
  refine ⟨_, CallR.or call_isi (CallR.or call_isiT call_isiK), fun F H M vs xs Q QV mm rp hr k => ?_⟩
  match xs, hr with
  | [x, .ty n], hr =>
    obtain ⟨v, w, rfl, r1, r2⟩ := repA2 rp
    cases r2
    have hr : (match tyN x with | some a => n ∈ knownT ∧ Q (.bl (isiN a n)) M | none => False) := hr
    split at hr
    · rename_i a e
      exact .inl ⟨v, .ty n, .type a, .type n, _, rfl, .ty n, r1.tyx e, kit_ty (kit_all a (tyN_mem e) n hr.1), k.at mm (.bl _) hr.2⟩
    · exact hr.elim
  | [x, .tup [.ty n, .ty m]], hr =>
    obtain ⟨v, w, rfl, r1, r2⟩ := repA2 rp
    have hr : (match tyN x with | some a => n ∈ knownT ∧ m ∈ knownT ∧ Q (.bl (isiN a n || isiN a m)) M | none => False) := hr
    split at hr
    · rename_i a e
      cases r2 with
      | @tup p ws _ hx r2 =>
        obtain ⟨w1, w2, rfl, q1, q2⟩ := repA2 r2
        cases q1
        cases q2
        have h1 := kit_ty (K := X.K) (kit_all a (tyN_mem e) n hr.1)
        have h2 := kit_ty (K := X.K) (kit_all a (tyN_mem e) m hr.2.1)
        have hk : PySem.W.kitAny X.K (.type a) [.type n, .type m] = some (isiN a n || isiN a m) := by
          refine kitAny_cons h1 (fun e1 => ?_) (fun e1 => by rw [e1]; rfl)
          refine kitAny_cons h2 (fun e2 => ?_) (fun e2 => by rw [e2, Bool.or_true])
          rw [e1, e2]
          rfl
        rcases hx with ⟨_, hx⟩ | ⟨o, its, j, hk1, hk2, hk3, _, hv⟩
        · exact .inr (.inl ⟨v, p, _, .type a, [.type n, .type m], _, rfl, hx, .cons (.ty n) (.cons (.ty m) .nil), r1.tyx e, hk, k.at mm (.bl _) hr.2.2⟩)
        · obtain ⟨oc, od, dt, sl⟩ := o
          simp only at hk2 hk3
          subst hk2 hk3
          have e3 : its.toList = [.type n, .type m] := ClsV.all (.cons (.ty n) (.cons (.ty m) .nil)) hv
          have e4 : its = [Value.type n, .type m].toArray := by rw [← e3]
          rw [e4] at hk1
          exact .inr (.inr ⟨v, p, od, [.type n, .type m], j, sl, .type a, _, rfl, hk1, r1.tyx e, hk, k.at mm (.bl _) hr.2.2⟩)
    · exact hr.elim
end

/-! ### names of built-ins -/
abbrev FnP (K : PySem.W.Frag) (x : Str) (st : Stmt) (f : Addr) (fd : FuncData) : Prop := FunD K x x (defArgs st) (defBody st) (defScope st) [] [] f fd
theorem hu65 {A : Around} {k : Nat} (hr : Room k A) : A.units + 65 < cLine := by have := hr.un; omega
theorem bt_int : bootBuiltins "int" = some (.type "int") := by decide +kernel
theorem bt_str : bootBuiltins "str" = some (.type "str") := by decide +kernel
theorem bt_bool : bootBuiltins "bool" = some (.type "bool") := by decide +kernel
theorem bt_list : bootBuiltins "list" = some (.type "list") := by decide +kernel
theorem bt_tuple : bootBuiltins "tuple" = some (.type "tuple") := by decide +kernel
theorem bt_set : bootBuiltins "set" = some (.type "set") := by decide +kernel
theorem bt_dict : bootBuiltins "dict" = some (.type "dict") := by decide +kernel
theorem bt_range : bootBuiltins "range" = some (.type "range") := by decide +kernel
theorem bt_enumerate : bootBuiltins "enumerate" = some (.type "enumerate") := by decide +kernel
theorem bt_zip : bootBuiltins "zip" = some (.type "zip") := by decide +kernel
theorem bf_len : bootBuiltins "len" = some (.builtin "len") := by decide +kernel
theorem bf_abs : bootBuiltins "abs" = some (.builtin "abs") := by decide +kernel
theorem bf_isinstance : bootBuiltins "isinstance" = some (.builtin "isinstance") := by decide +kernel
theorem bf_all : bootBuiltins "all" = some (.builtin "all") := by decide +kernel
theorem bf_any : bootBuiltins "any" = some (.builtin "any") := by decide +kernel
theorem bf_sorted : bootBuiltins "sorted" = some (.builtin "sorted") := by decide +kernel
theorem bf_max : bootBuiltins "max" = some (.builtin "max") := by decide +kernel
theorem bf_min : bootBuiltins "min" = some (.builtin "min") := by decide +kernel
theorem bf_repr : bootBuiltins "repr" = some (.builtin "repr") := by decide +kernel
theorem bf_sum : bootBuiltins "sum" = some (.builtin "sum") := by decide +kernel

/-! ### what the top has left -/
structure Tops (fa : List He.Fa) (fn : List He.DefD) (K : PySem.W.Frag) (mg : Str → Option Value) : Prop where
  says : He.SaysD fa fn K
  glo : ∀ {x : Str}, (He.Fa.glo x).ok K = true → mg x = some (.ref (He.ga K x))
  free : ∀ {x : Str}, (He.Fa.free x).ok K = true → mg x = none
  int : ∀ {x : Str} {i : Int}, (He.Fa.int x i).ok K = true → ∃ t, mg x = some (.int i t)
  str : ∀ {x z : Str}, (He.Fa.str x z).ok K = true → ∃ t, mg x = some (.str z t)
theorem tops_of {fa : List He.Fa} {fn : List He.DefD} {K : PySem.W.Frag} {h : Heap} {mg : Str → Option Value} (KX : K.In h) (G : h.Ns mainGlobals mg) (c : He.SaysD fa fn K) : Tops fa fn K mg :=
  ⟨c, He.glo_ok KX G, He.free_ok KX G, He.int_ok KX G, He.str_ok KX G⟩
/-! ### keywords -/
theorem kbn0 {K : PySem.W.Frag} {x qual : Str} {params : Arguments} {body : List Stmt} {scope : Scope} {kws : List (Str × V)} {f : Addr} {fd : FuncData} {ps ks : List Str} {n : Nat} (F : FunD K x qual params body scope [] kws f fd) (g : {α : Type} → List α → List α → List α)
    (hrel : ∀ {vs zs : List V} {us ws : List Value}, Vals vs us → Vals zs ws → Vals (g vs zs) (g us ws))
    (h : ∀ (kV doc pm : Value) (an : Option Addr) (cdv ct : Value) (us ws : List Value), us.length = n → ws.length = ks.length → bindArgs (PySem.W.fnOf x qual params body scope .none kV doc pm an cdv ct) ⟨us, ks.zip ws⟩ = pure (ps.zip (g us ws))) : KBn K fd ps n ks g g := by
  obtain ⟨oc, od, dV, kV, doc, pm, an, cdv, ct, osl, rfl, lk, hcd, hD, hK⟩ := F.ex
  rcases hD with ⟨_, rfl⟩ | ⟨e, _⟩
  · exact ⟨fun s us ws _ l1 l2 => .of_eq (h kV doc pm an cdv ct us ws l1 l2), fun r1 r2 => hrel r1 r2⟩
  · exact absurd rfl e

/-! ### the draws of a law -/
theorem rmm_open {K : PySem.W.Frag} {F : List Addr} {H : Hp} {M : MM} {g : Addr} (m : RMM K F H M) (h : M.lookup g = some .bag) : ∃ ds, BagL ds ∧ RMM K F H (put M g (.lst ds)) := by
  obtain ⟨ds, vs, b, h1, h2⟩ := m.get h
  refine ⟨ds, b, by rw [keys_put]; exact m.nd, fun a q ha => ?_, fun f hf => by rw [keys_put]; exact m.fd f hf⟩
  unfold ak
  rw [keys_put]
  unfold Dl.put at ha
  obtain ⟨p, hp, e⟩ := List.mem_map.mp ha
  split at e
  · cases e; exact ⟨vs, h1, h2⟩
  · subst e
    exact m.at_ _ _ hp
theorem mem_put {M : MM} {g : Addr} {mo : MO} (h : g ∈ keys M) : (g, mo) ∈ put M g mo := by
  obtain ⟨p, hp, e⟩ := List.mem_map.mp h
  exact List.mem_map.mpr ⟨p, hp, by rw [if_pos e]⟩
theorem nodup_val {M : MM} (nd : (keys M).Nodup) : ∀ {a : Addr} {x y : MO}, (a, x) ∈ M → (a, y) ∈ M → x = y := by
  induction M with
  | nil => intro a x y h; cases h
  | cons p r ih =>
    intro a x y h1 h2
    rw [show keys (p :: r) = p.1 :: keys r from rfl, List.nodup_cons] at nd
    rcases List.mem_cons.mp h1 with e1 | h1
    · rcases List.mem_cons.mp h2 with e2 | h2
      · rw [← e1] at e2; cases e2; rfl
      · exact absurd (List.mem_map.mpr ⟨(a, y), h2, by rw [← e1]⟩) nd.1
    · rcases List.mem_cons.mp h2 with e2 | h2
      · exact absurd (List.mem_map.mpr ⟨(a, x), h1, by rw [← e2]⟩) nd.1
      · exact ih nd.2 h1 h2
theorem rmm_close {K : PySem.W.Frag} {F : List Addr} {H : Hp} {M : MM} {g : Addr} {ds : List D} (m : RMM K F H (put M g (.lst ds))) (b : BagL ds) (h : M.lookup g = some .bag) : RMM K F H M := by
  have nd : (keys M).Nodup := by have := m.nd; rw [keys_put] at this; exact this
  refine ⟨nd, fun a q ha => ?_, fun f hf => by have := m.fd f hf; rw [keys_put] at this; exact this⟩
  have hk : keys (put M g (.lst ds)) = keys M := keys_put ..
  by_cases e : a = g
  · subst e
    have := m.at_ a (.lst ds) (mem_put (lookup_key h))
    unfold ak at this
    rw [hk] at this
    obtain ⟨vs, h1, h2⟩ := this
    have eq : q = .bag := nodup_val nd ha (lookup_mem h)
    subst eq
    exact ⟨ds, vs, b, h1, h2⟩
  · have := m.at_ a q (List.mem_map.mpr ⟨(a, q), ha, by rw [if_neg e]⟩)
    unfold ak at this
    rw [hk] at this
    exact this
/-- a def that changes the bag alone: its body sees the list, its callers do not -/
theorem fnok_bag {P : Program} {w : World} {K : PySem.W.Frag} {mg : Str → Option Value} {base : Heap} {CX : CXT} {k : Nat} {f : Addr} {fd : FuncData} {ps : List Str} {sp sp' : SpD} (h : FnOk P w K mg base CX k f fd ps (spOf K sp))
    (hi : ∀ xs M Z Q, sp' xs M Z Q → ∃ g, M.lookup g = some .bag ∧ ∀ ds, BagL ds → sp xs (put M g (.lst ds)) X0 (fun d M' => ∃ ds', BagL ds' ∧ M' = put M g (.lst ds') ∧ Q d M)) : FnOk P w K mg base CX k f fd ps (spOf K sp') := by
  refine h.imp fun vs H Q E q => ?_
  obtain ⟨F, xs, M, Z, QD, mm, r, q, kq, kx⟩ := q
  obtain ⟨g, hg, q⟩ := hi xs M Z QD q
  obtain ⟨ds, b, mm'⟩ := rmm_open mm hg
  have hk : ∀ ds, keys (put M g (.lst ds)) = keys M := fun ds => keys_put ..
  refine ⟨F, xs, put M g (.lst ds), X0, _, mm', by unfold ak; rw [hk]; exact r, q ds b, fun v H' d M' st m2 rp q2 => ?_, fun C fs vs d H' M' st mm e n r q => q.elim⟩
  obtain ⟨ds', b', rfl, q3⟩ := q2
  rw [hk, hk] at st
  unfold ak at rp
  rw [hk] at rp
  exact kq v H' d M st (rmm_close m2 b' hg) rp q3
/-- the bag as it is made -/
theorem rmm_toBag {K : PySem.W.Frag} {F : List Addr} {H : Hp} {M : MM} {g : Addr} {ds : List D} (m : RMM K F H ((g, .lst ds) :: M)) (b : BagL ds) : RMM K F H ((g, .bag) :: M) := by
  refine ⟨m.nd, fun a q ha => ?_, m.fd⟩
  rcases List.mem_cons.mp ha with e | ha
  · cases e
    obtain ⟨vs, h1, h2⟩ := m.at_ g (.lst ds) List.mem_cons_self
    exact ⟨ds, vs, b, h1, h2⟩
  · exact m.at_ a q (List.mem_cons_of_mem _ ha)
theorem fnok_newBag {P : Program} {w : World} {K : PySem.W.Frag} {mg : Str → Option Value} {base : Heap} {CX : CXT} {k : Nat} {f : Addr} {fd : FuncData} {ps : List Str} {sp sp' : SpD} (h : FnOk P w K mg base CX k f fd ps (spOf K sp))
    (hi : ∀ xs M Z Q, sp' xs M Z Q → sp xs M X0 (fun d M' => ∃ g ds, BagL ds ∧ g ∉ keys M ∧ d = .ref g ∧ M' = (g, .lst ds) :: M ∧ Q (.ref g) ((g, .bag) :: M))) : FnOk P w K mg base CX k f fd ps (spOf K sp') := by
  refine h.imp fun vs H Q E q => ?_
  obtain ⟨F, xs, M, Z, QD, mm, r, q, kq, kx⟩ := q
  refine ⟨F, xs, M, X0, _, mm, r, hi xs M Z QD q, fun v H' d M' st m2 rp q2 => ?_, fun C fs vs d H' M' st mm e n r q => q.elim⟩
  obtain ⟨g, ds, b, hn, rfl, rfl, q3⟩ := q2
  exact kq v H' _ ((g, .bag) :: M) st (rmm_toBag m2 b) rp q3
def spBag : SpD := fun xs M Z Q => ∃ ns : List Int, xs = [.scr ns] ∧ ∀ g, g ∉ keys M → Q (.ref g) ((g, .bag) :: M)
def spPick : SpD := fun xs M Z Q => ∃ (g : Addr) (n : Int), xs = [.ref g, .int n] ∧ M.lookup g = some .bag ∧ 0 < n ∧ n ≤ 2 ^ 60 ∧ ∀ r, 0 ≤ r → r < n → Q (.int r) M
/-- what is drawn from -/
def itemsOf : D → Option (List D)
  | .lst xs => some xs
  | .tup xs => some xs
  | .str z => some (signs z)
  | _ => none
def spOfD : SpD := fun xs M Z Q => ∃ (g : Addr) (d : D) (ys : List D), xs = [.ref g, d] ∧ M.lookup g = some .bag ∧ itemsOf d = some ys ∧ 0 < ys.length ∧ ys.length ≤ 1000 ∧ ∀ y, y ∈ ys → Q y M
end L2.Dl
namespace L2.Dl
open PySem PySem.Spec PyProof.Rows
/-! ### plain data -/
@[simp] theorem okD_int (i : Int) : okD (.int i) = true := rfl
@[simp] theorem okD_str (x : Str) : okD (.str x) = true := rfl
@[simp] theorem okD_bl (b : Bool) : okD (.bl b) = true := rfl
@[simp] theorem okD_non : okD .non = true := rfl
@[simp] theorem eqD_int (i j : Int) : eqD (.int i) (.int j) = decide (i = j) := by
  show (i == j) = _
  rw [Bool.eq_iff_iff]; simp
@[simp] theorem eqD_str (i j : Str) : eqD (.str i) (.str j) = decide (i = j) := by
  show (i == j) = _
  rw [Bool.eq_iff_iff]; simp
@[simp] theorem eqD_bl (i j : Bool) : eqD (.bl i) (.bl j) = decide (i = j) := by
  cases i <;> cases j <;> rfl
theorem cmul_r {i j : Int} (h1 : -18446744073709551616 < j) (h2 : j < 18446744073709551616) : CMul i j := .inr ⟨by omega, by omega⟩
theorem cmul_l {i j : Int} (h1 : -18446744073709551616 < i) (h2 : i < 18446744073709551616) : CMul i j := .inl ⟨by omega, by omega⟩
theorem cdivw {i j : Int} (h1 : 0 < j) (h2 : j ≤ 2 ^ 60) : CDivW i j := wide_div (b := 61) h1 (by omega) (by omega) (by omega)
theorem cpow10 (j : Int) (h0 : 0 ≤ j) (h1 : j ≤ 100) : CPow 10 j := ⟨h0, by omega, by decide⟩
theorem size_le {n : Nat} (h : n ≤ 100000) : n ≤ sizeLine := by rw [sizeLine_eq]; omega
theorem size_lt {n : Nat} (h : n < 100000) : n < sizeLine := by rw [sizeLine_eq]; omega
end L2.Dl

namespace L2.Dl
open PySem PySem.Spec PyProof.Rows
/-! ### sizes, for simp -/
@[simp] theorem cmul_s {i j : Int} (h1 : -18446744073709551616 < j) (h2 : j < 18446744073709551616) : CMul i j = True := eq_true (cmul_r h1 h2)
@[simp] theorem cdiv_s {i j : Int} (h1 : 0 < j) (h2 : j ≤ 1152921504606846976) : CDivW i j = True := eq_true (cdivw h1 h2)
@[simp] theorem cpow_s {j : Int} (h1 : 0 ≤ j) (h2 : j ≤ 100) : CPow 10 j = True := eq_true (cpow10 j h1 h2)
/-! ### comprehensions and loops, read -/
@[simp ↓] theorem forGo_nil (g : Tgt) (tb : TSD) (E : EndsD) (ds : SD) (M : MM) : forGo g tb E [] ds M = E.nx ds M := rfl
@[simp ↓] theorem forGo_cons (g : Tgt) (tb : TSD) (E : EndsD) (x : D) (xs : List D) (ds : SD) (M : MM) : forGo g tb E (x :: xs) ds M = optK (setT g x ds) fun ds2 => tb { E with nx := forGo g tb E xs, ct := forGo g tb E xs, bk := E.nx } ds2 M := rfl
@[simp ↓] theorem lcGo_nil (g : Tgt) (tt : TTD) (te : TD) (ds : SD) (Q : QD) (acc : List D) (M : MM) : lcGo g tt te ds Q [] acc M = Q (.lst acc) M := rfl
@[simp ↓] theorem lcGo_cons (g : Tgt) (tt : TTD) (te : TD) (ds : SD) (Q : QD) (x : D) (xs acc : List D) (M : MM) : lcGo g tt te ds Q (x :: xs) acc M = optK (setT g x ds) fun ds2 => tt ds2 M X0 fun b M3 => if b = true then te ds2 M3 X0 fun y M4 => acc.length < sizeLine ∧ lcGo g tt te ds Q xs (acc ++ [y]) M4 else lcGo g tt te ds Q xs acc M3 := rfl
/-- each item by a function -/
theorem lc_map {g : Tgt} {te : TD} {ds : SD} {Q : QD} (f : D → D) {M : MM} : ∀ (items acc : List D), (∀ x ∈ items, ∃ ds2, setT g x ds = some ds2 ∧ ∀ Q' : QD, Q' (f x) M → te ds2 M X0 Q') → acc.length + items.length ≤ sizeLine → Q (.lst (acc ++ items.map f)) M → lcGo g dYes te ds Q items acc M
  | [], acc, _, _, q => by show Q (.lst acc) M; simpa using q
  | x :: xs, acc, h, hl, q => by
    obtain ⟨ds2, e, h1⟩ := h x List.mem_cons_self
    simp only [List.length_cons] at hl
    show optK (setT g x ds) _
    rw [e, optK_some]
    show (if true = true then _ else _)
    refine iteT (h1 _ ⟨by omega, lc_map f xs _ (fun y hy => h y (List.mem_cons_of_mem _ hy)) (by simp; omega) (by simpa using q)⟩)
/-- items drawn: of each only P is known -/
theorem lc_pred {g : Tgt} {te : TD} {ds : SD} {Q : QD} (P : D → Prop) {M : MM} : ∀ (items acc : List D), (∀ x ∈ items, ∃ ds2, setT g x ds = some ds2 ∧ ∀ Q' : QD, (∀ y, P y → Q' y M) → te ds2 M X0 Q') → acc.length + items.length ≤ sizeLine → (∀ ys : List D, ys.length = items.length → (∀ y ∈ ys, P y) → Q (.lst (acc ++ ys)) M) → lcGo g dYes te ds Q items acc M
  | [], acc, _, _, q => by have := q [] rfl (by simp); show Q (.lst acc) M; simpa using this
  | x :: xs, acc, h, hl, q => by
    obtain ⟨ds2, e, h1⟩ := h x List.mem_cons_self
    simp only [List.length_cons] at hl
    show optK (setT g x ds) _
    rw [e, optK_some]
    show (if true = true then _ else _)
    refine iteT (h1 _ fun y hy => ⟨by omega, lc_pred P xs _ (fun y hy => h y (List.mem_cons_of_mem _ hy)) (by simp; omega) fun ys hl' hp => ?_⟩)
    have := q (y :: ys) (by simp [hl']) (by intro z hz; rcases List.mem_cons.mp hz with e | hz; · subst e; exact hy
                                            · exact hp z hz)
    simpa using this
/-- with an if -/
theorem lc_filter {g : Tgt} {tt : TTD} {te : TD} {ds : SD} {Q : QD} (p : D → Bool) (f : D → D) {M : MM} : ∀ (items acc : List D), (∀ x ∈ items, ∃ ds2, setT g x ds = some ds2 ∧ (∀ Q' : Bool → MM → Prop, Q' (p x) M → tt ds2 M X0 Q') ∧ (p x = true → ∀ Q' : QD, Q' (f x) M → te ds2 M X0 Q')) → acc.length + items.length ≤ sizeLine →
    Q (.lst (acc ++ (items.filter p).map f)) M → lcGo g tt te ds Q items acc M
  | [], acc, _, _, q => by show Q (.lst acc) M; simpa using q
  | x :: xs, acc, h, hl, q => by
    obtain ⟨ds2, e, h1, h2⟩ := h x List.mem_cons_self
    simp only [List.length_cons] at hl
    show optK (setT g x ds) _
    rw [e, optK_some]
    refine h1 _ ?_
    cases hp : p x with
    | true =>
      refine iteT (h2 hp _ ⟨by omega, lc_filter p f xs _ (fun y hy => h y (List.mem_cons_of_mem _ hy)) (by simp; omega) ?_⟩)
      rw [List.filter_cons, if_pos hp] at q
      simpa using q
    | false =>
      refine iteF (lc_filter p f xs _ (fun y hy => h y (List.mem_cons_of_mem _ hy)) (by omega) ?_)
      rw [List.filter_cons, if_neg (by rw [hp]; exact Bool.false_ne_true)] at q
      exact q
/-- a for by what stands between two turns -/
theorem for_inv {g : Tgt} {tb : TSD} {E : EndsD} (Wi : List D → SD → MM → Prop) (hs : ∀ x xs ds M, Wi (x :: xs) ds M → ∃ ds2, setT g x ds = some ds2 ∧ ∀ E' : EndsD, E'.rt = E.rt → E'.bk = E.nx → E'.xc = E.xc → (∀ ds M, Wi xs ds M → E'.nx ds M) → E'.ct = E'.nx → tb E' ds2 M) (hd : ∀ ds M, Wi [] ds M → E.nx ds M) :
    ∀ (items : List D) (ds : SD) (M : MM), Wi items ds M → forGo g tb E items ds M
  | [], ds, M, h => hd ds M h
  | x :: xs, ds, M, h => by
    obtain ⟨ds2, e, h1⟩ := hs x xs ds M h
    show optK (setT g x ds) _
    rw [e]
    exact h1 _ rfl rfl rfl (fun ds M hw => for_inv Wi hs hd xs ds M hw) rfl
theorem ranged_mem {lo : Int} {n : Nat} {x : D} (h : x ∈ ranged lo n) : ∃ i : Nat, i < n ∧ x = .int (lo + i) := by
  unfold ranged at h
  obtain ⟨i, hi, e⟩ := List.mem_map.mp h
  exact ⟨i, List.mem_range.mp hi, e.symm⟩
theorem signs_mem {z : Str} {x : D} (h : x ∈ signs z) : ∃ c, c ∈ z.cps.toList ∧ x = .str ⟨#[c]⟩ := by
  unfold signs at h
  obtain ⟨c, hc, e⟩ := List.mem_map.mp h
  exact ⟨c, hc, e.symm⟩
theorem signs_length (z : Str) : (signs z).length = z.length := by
  unfold signs
  simp
  rfl
theorem lc_signs {g : Tgt} {te : TD} {ds : SD} {Q : QD} {M : MM} {z : Str} (p : Nat → Bool) (h : ∀ c ∈ z.cps.toList, ∃ ds2, setT g (.str ⟨#[c]⟩) ds = some ds2 ∧ ∀ Q' : QD, Q' (.bl (p c)) M → te ds2 M X0 Q') (hl : z.length ≤ 100000) (q : Q (.lst (z.cps.toList.map fun c => .bl (p c))) M) : lcGo g dYes te ds Q (signs z) [] M := by
  refine lc_map (fun d => match d with | .str ⟨⟨[c]⟩⟩ => .bl (p c) | _ => .non) _ _ (fun x hx => ?_) (by simp [signs_length]; exact size_le hl) ?_
  · obtain ⟨c, hc, rfl⟩ := signs_mem hx
    exact h c hc
  · unfold signs
    rw [List.map_map]
    exact q
/-! ### the draw of one thing -/
theorem itemsOf_ix {d : D} {ys : List D} {M : MM} {Q : QD} {r : Int} (h : itemsOf d = some ys) (hl : ys.length ≤ 1000) (h0 : 0 ≤ r) (h1 : r < ys.length) (q : ∀ y ∈ ys, Q y M) : dIx d (.int r) M Q := by
  have ix : ∀ {α : Type} (l : List α), r < l.length → ∃ x, L2.atI l r = some x ∧ x ∈ l := fun l hr => by
    have hlt : r.toNat < l.length := by omega
    refine ⟨l[r.toNat], ?_, List.getElem_mem hlt⟩
    unfold L2.atI ixN
    rw [if_pos h0, if_pos hr]
    simp [hlt]
  cases d with
  | lst xs =>
    cases h
    obtain ⟨x, e, hx⟩ := ix ys h1
    show optK (L2.atI ys r) _
    rw [e]
    exact q x hx
  | tup xs =>
    cases h
    obtain ⟨x, e, hx⟩ := ix ys h1
    show optK (L2.atI ys r) _
    rw [e]
    exact q x hx
  | str z =>
    cases h
    rw [signs_length] at h1 hl
    have hz : z.cps.toList.length = z.length := by simp; rfl
    obtain ⟨x, e, hx⟩ := ix z.cps.toList (by rw [hz]; exact h1)
    refine ⟨size_le (by omega), ?_⟩
    rw [e]
    exact q _ (List.mem_map.mpr ⟨x, hx, rfl⟩)
  | _ => cases h
theorem itemsOf_len {d : D} {ys : List D} {M : MM} {Q : QD} (h : itemsOf d = some ys) (hl : ys.length ≤ 1000) (q : Q (.int ys.length) M) : dLen [d] M Q := by
  cases d with
  | lst xs => cases h; exact q
  | tup xs => cases h; exact q
  | str z => cases h; rw [signs_length] at q hl; exact ⟨size_le (by omega), q⟩
  | _ => cases h
/-! ### like: plain data, equal in all -/
def plainD : Nat → D → Bool
  | _, .non => true | _, .bl _ => true | _, .int _ => true | _, .str _ => true
  | n + 1, .lst xs => decide (xs.length ≤ 100000) && xs.all (plainD n)
  | n + 1, .tup xs => decide (xs.length ≤ 100000) && xs.all (plainD n)
  | _, _ => false
theorem plainD_ok : ∀ {n : Nat} {d : D}, plainD n d = true → ∃ p, toPy d = some p ∧ p.depth ≤ n + 1 := by
  intro n
  induction n with
  | zero =>
    intro d h
    cases d with
    | non => exact ⟨_, rfl, by decide⟩
    | bl b => exact ⟨_, rfl, by show 0 ≤ 1; decide⟩
    | int b => exact ⟨_, rfl, by show 0 ≤ 1; decide⟩
    | str b => exact ⟨_, rfl, by show 0 ≤ 1; decide⟩
    | _ => cases h
  | succ n ih =>
    have all : ∀ xs : List D, xs.all (plainD n) = true → ∃ ps, toPyL xs = some ps ∧ PyData.depthAll ps ≤ n + 1 := by
      intro xs
      induction xs with
      | nil => intro _; exact ⟨[], rfl, by show 0 ≤ n + 1; omega⟩
      | cons x r ihx =>
        intro h
        rw [List.all_cons, Bool.and_eq_true] at h
        obtain ⟨p, e1, h1⟩ := ih h.1
        obtain ⟨ps, e2, h2⟩ := ihx h.2
        refine ⟨p :: ps, by unfold toPyL; rw [e1, e2], ?_⟩
        show max p.depth (PyData.depthAll ps) ≤ n + 1
        omega
    intro d h
    cases d with
    | non => exact ⟨_, rfl, by show 0 ≤ n + 1 + 1; omega⟩
    | bl b => exact ⟨_, rfl, by show 0 ≤ n + 1 + 1; omega⟩
    | int b => exact ⟨_, rfl, by show 0 ≤ n + 1 + 1; omega⟩
    | str b => exact ⟨_, rfl, by show 0 ≤ n + 1 + 1; omega⟩
    | lst xs =>
      have h := (Bool.and_eq_true_iff.mp (show (decide (xs.length ≤ 100000) && xs.all (plainD n)) = true from h)).2
      obtain ⟨ps, e, hd⟩ := all xs h
      exact ⟨.list ps, by simp only [toPy, e]; rfl, by show PyData.depthAll ps + 1 ≤ n + 1 + 1; omega⟩
    | tup xs =>
      have h := (Bool.and_eq_true_iff.mp (show (decide (xs.length ≤ 100000) && xs.all (plainD n)) = true from h)).2
      obtain ⟨ps, e, hd⟩ := all xs h
      exact ⟨.tuple ps, by simp only [toPy, e]; rfl, by show PyData.depthAll ps + 1 ≤ n + 1 + 1; omega⟩
    | _ => cases h
theorem zipd_self {x : D} : ∀ {xs : List D}, x ∈ zipd xs xs → ∃ d ∈ xs, x = .tup [d, d]
  | [], h => by cases h
  | y :: r, h => by
    rcases List.mem_cons.mp (show x ∈ .tup [y, y] :: zipd r r from h) with e | h
    · exact ⟨y, List.mem_cons_self, e⟩
    · obtain ⟨d, hd, e⟩ := zipd_self h
      exact ⟨d, List.mem_cons_of_mem _ hd, e⟩
@[simp] theorem boolsD_of {α : Type} (f : α → Bool) : ∀ l : List α, boolsD (l.map fun x => .bl (f x)) = some (l.map f)
  | [] => rfl
  | x :: r => by
    show (boolsD (r.map fun x => .bl (f x))).map (f x :: ·) = _
    rw [boolsD_of f r]
    rfl
def likeSp (n : Nat) : SpD := fun xs M Z Q => ∃ d, xs = [d, d] ∧ plainD n d = true ∧ Q (.bl true) M
def likeSp' : Nat → SpD
  | 0 => fun _ _ _ _ => False
  | n + 1 => likeSp n
end L2.Dl

namespace L2.Dl
open PySem PySem.Spec PyProof.Rows
/-! ### texts -/
theorem len_app (x y : Str) : (x ++ y).length = x.length + y.length := by
  show (x.cps ++ y.cps).size = x.cps.size + y.cps.size
  simp
theorem len_cut (z : Str) (lo hi : Option Int) : (cutS z lo hi).length ≤ z.length := by
  have e : z.length = z.cps.toList.length := by simp; rfl
  unfold cutS
  show ((((z.cps.toList.drop _).take _).toArray).size) ≤ _
  rw [e]
  simp
  omega
theorem join_signs : ∀ {ys : List D}, (∀ y ∈ ys, ∃ c, y = .str ⟨#[c]⟩) → ∃ ss, strsD ys = some ss ∧ ss.length = ys.length ∧ (ss.map (·.length)).sum = ys.length ∧ (Str.join Str.empty ss).length = ys.length
  | [], _ => ⟨[], rfl, rfl, rfl, rfl⟩
  | y :: r, h => by
    obtain ⟨c, rfl⟩ := h y List.mem_cons_self
    obtain ⟨ss, e, h1, h2, h3⟩ := join_signs (ys := r) fun z hz => h z (List.mem_cons_of_mem _ hz)
    refine ⟨⟨#[c]⟩ :: ss, by unfold strsD; rw [e]; rfl, by simp [h1], ?_, ?_⟩
    · rw [List.map_cons, List.sum_cons, h2]
      show 1 + r.length = r.length + 1
      omega
    · cases ss with
      | nil =>
        cases r with
        | nil => rfl
        | cons a b => simp at h1
      | cons a b =>
        show (⟨#[c]⟩ ++ Str.empty ++ Str.join Str.empty (a :: b)).length = _
        rw [len_app, len_app, h3]
        show 1 + 0 + r.length = r.length + 1
        omega
end L2.Dl

namespace L2.Dl
open PySem PySem.Spec PyProof.Rows
/-! ### a law's end -/
def spLaw : SpD := fun xs M Z Q => ∃ ns : List Int, xs = [.scr ns] ∧ M = [] ∧ ∀ M, Q (.bl true) M
theorem law_sp {K : PySem.W.Frag} {H : Hp} {a : Addr} {ns : List Int} (h : SqL K H a (ns.map V.int)) : spOf K spLaw [.ref a] H (fun v _ => v = .bl true) (fun _ _ _ => False) := by
  refine ⟨[], [.scr ns], [], X0, fun d _ => d = .bl true, ⟨List.nodup_nil, fun _ _ h => (nomatch h), fun _ h => (nomatch h)⟩, .cons (.scr ?_) .nil, ⟨ns, rfl, rfl, fun _ => rfl⟩, fun v H' d M' _ _ rp e => ?_, fun _ _ _ _ _ _ _ _ _ _ _ z => z.elim⟩
  · rcases h with h | h
    · exact .inl ⟨fun z => (nomatch z), h⟩
    · exact .inr h
  · subst e
    cases rp
    rfl
theorem cx_false {P : Program} {w : World} (H : Hp) (s : Shared) (e : Value) (s' : Shared) (h : L2.CX P w [] H s (fun _ _ _ => False) e s') : False := by
  obtain ⟨_, _, _, _, _, _, _, _, _, _, _, _, z⟩ := h
  exact z
theorem fn_cx {P : Program} {w : World} {K : PySem.W.Frag} {mg : Str → Option Value} {base : Heap} {k : Nat} {f : Addr} {fd : FuncData} {ps : List Str} {sp : Sp} (h : FnOk P w K mg base (L2.CX P w) k f fd ps sp) : FnOk P w K mg base (fun outer H s E e s' => ∃ w, L2.CX P w outer H s E e s') k f fd ps sp :=
  ⟨h.len, fun A outer s H args us vs Q E hr e0 hb r hs => codeAny_mono (h.run A outer s H args us vs Q E hr e0 hb r hs) fun res s' q => by
    cases res with
    | error e => exact ⟨w, q⟩
    | ok fl => cases fl <;> exact q⟩
/-! ### the hook: what the facts need of the top, without looking twice -/
def adsV (g : Addr → Option Obj) (v : Value) : List Addr := He.refV v
def adsF (g : Addr → Option Obj) (a : Addr) : List Addr := match g a with
  | some o => He.refsD o
  | none => []
/-- the globals, what they are, what is in their classes, code, defaults -/
def asX (g : Addr → Option Obj) : List Addr :=
  let l1 := adsF g mainGlobals
  let l2 := l1.flatMap (adsF g)
  let l3 := l2.flatMap (adsF g)
  mainGlobals :: (l1 ++ (l2 ++ l3))
end L2.Dl

namespace L2.Dl
open PySem PySem.Spec PyProof.Rows
/-! ### objects -/
def clsOf : D → MM → Option (Str × List (Str × D))
  | .obj C fs, _ => some (C, fs)
  | .ref a, M => match M.lookup a with | some (.obj C fs) => some (C, fs) | _ => none
  | _, _ => none
theorem clsOf_at {K : PySem.W.Frag} {F : List Addr} {H : Hp} {M : MM} {v : V} {d : D} {C : Str} {fs : List (Str × D)} (mm : RMM K F H M) (r : Rep K (ak F M) H v d) (h : clsOf d M = some (C, fs)) : ∃ a dx vs, v = .ref a ∧ H a = some (.ins (He.ga K C) dx vs) ∧ RepF K (ak F M) H Str vs fs := by
  cases r with
  | obj h1 h2 r => cases h; exact ⟨_, _, _, rfl, h2, r⟩
  | ref a =>
    have h : (match M.lookup a with | some (.obj C fs) => some (C, fs) | _ => none) = some (C, fs) := h
    cases e : M.lookup a with
    | none => rw [e] at h; cases h
    | some mo =>
      rw [e] at h
      cases mo with
      | obj C' fs' =>
        cases h
        obtain ⟨dx, vs, h1, h2⟩ := mm.get e
        exact ⟨a, dx, vs, rfl, h1, h2⟩
      | _ => cases h
  | _ => cases h
/-- fields of the classes Cs by the name f -/
def FldOk (K : PySem.W.Frag) (Cs : List Str) (f : Str) : Prop := ∀ C ∈ Cs, Cls K (He.ga K C) ∧ NoAttr K (He.ga K C) f
section
variable {X : Cx} {e o : Expr} {te to tv : TD} {pos apos : Pos} {f : Str} {Cs : List Str}
def dFld (Cs : List Str) (f : Str) (te : TD) : TD := fun ds M Z Q => te ds M Z fun d M1 => optK (clsOf d M1) fun c => c.1 ∈ Cs ∧ optK (c.2.lookup f) fun v => Q v M1
@[simp ↓] theorem dFld_eq (Cs : List Str) (f : Str) (te : TD) : ∀ ds M Z Q, dFld Cs f te ds M Z Q = (te ds M Z fun d M1 => optK (clsOf d M1) fun c => c.1 ∈ Cs ∧ optK (c.2.lookup f) fun v => Q v M1) := fun _ _ _ _ => rfl
theorem d_fld (hC : FldOk X.K Cs f) (he : PD X e te) (hb : attributeBase e f X.env (eval e X.env) = eval e X.env := by rfl) : PD X (.Attribute e f pos) (dFld Cs f te) := by
  refine PD.of (fun W tk => pe_fld (he.pe tk) hb) fun W F σ H ds M Z Q hs ht => ?_
  refine ⟨F, ds, M, _, _, hs, ht, fun v H1 d M1 st mm rp q => ?_⟩
  unfold optK at q
  split at q
  · rename_i c e1
    obtain ⟨C, fs⟩ := c
    obtain ⟨hm, q⟩ := q
    split at q
    · rename_i w e2
      obtain ⟨a, dx, vs, rfl, h1, h2⟩ := clsOf_at mm rp e1
      obtain ⟨u, h3, h4⟩ := h2.look e2
      exact ⟨a, _, dx, vs, u, rfl, h1, (hC C hm).1, (hC C hm).2, h3, (KQ.eq.on st).at mm h4 q⟩
    · exact q.elim
  · exact q.elim
def putD (f : Str) (v : D) : List (Str × D) → List (Str × D)
  | [] => [(f, v)]
  | (g, x) :: r => if g = f then (g, v) :: r else (g, x) :: putD f v r
theorem RepF.put {K : PySem.W.Frag} {B : List Addr} {H : Hp} {f : Str} {v : V} {d : D} (h : Rep K B H v d) : ∀ {vs : List (Str × V)} {fs : List (Str × D)}, RepF K B H Str vs fs → RepF K B H Str (putF f v vs) (putD f d fs)
  | _, _, .nil => .cons h .nil
  | _, _, @RepF.cons _ _ _ _ g w vs e ds q r => by
    unfold putF putD
    by_cases hg : g = f
    · rw [if_pos hg, if_pos hg]; exact .cons h r
    · rw [if_neg hg, if_neg hg]; exact .cons q (RepF.put h r)
def objK (o : Option MO) (k : Str → List (Str × D) → Prop) : Prop := match o with | some (.obj C fs) => k C fs | _ => False
@[simp] theorem objK_some (C : Str) (fs : List (Str × D)) (k : Str → List (Str × D) → Prop) : objK (some (.obj C fs)) k = k C fs := rfl
/-- o.f = e, o an object that may change -/
def dFldS (Cs : List Str) (f : Str) (to tv : TD) : TSD := fun E ds M => tv ds M (E.xd ds) fun d M1 => to ds M1 (E.xd ds) fun o M2 => match o with
  | .ref a => objK (M2.lookup a) fun C fs => C ∈ Cs ∧ fs.length < 1000 ∧ letK (put M2 a (.obj C (putD f d fs))) fun M' => E.nx ds M'
  | _ => False
@[simp ↓] theorem dFldS_eq (Cs : List Str) (f : Str) (to tv : TD) : ∀ E ds M, dFldS Cs f to tv E ds M = (tv ds M (E.xd ds) fun d M1 => to ds M1 (E.xd ds) fun o M2 => match o with
  | .ref a => objK (M2.lookup a) fun C fs => C ∈ Cs ∧ fs.length < 1000 ∧ letK (put M2 a (.obj C (putD f d fs))) fun M' => E.nx ds M'
  | _ => False) := fun _ _ _ => rfl
theorem s_fld {pos' : Pos} (hC : FldOk X.K Cs f) (hv : PD X e tv) (ho : PD X o to) (hs : swapsWith e (some (.Attribute o f pos')) pos.line X.env = pure false := by rfl) : PSD X (.Assign [.Attribute o f pos'] e pos) (dFldS Cs f to tv) := by
  refine PSD.of (fun W tk => ps_fld (ho.pe tk) (hv.pe tk) hs) fun W F σ H ds M E hst kx ht => ?_
  refine ⟨F, ds, M, _, _, hst.ex kx, ht, fun v H1 d M1 st mm rp q => ?_⟩
  refine ⟨F, ds, M1, _, _, (hst.ex kx).to st mm, q, fun ov H2 od M2 st2 mm2 rp2 q2 => ?_⟩
  cases od with
  | ref a =>
    cases rp2
    have q2 : objK (M2.lookup a) (fun C fs => C ∈ Cs ∧ fs.length < 1000 ∧ E.nx ds (put M2 a (.obj C (putD f d fs)))) := q2
    unfold objK at q2
    split at q2
    · rename_i C fs e1
      obtain ⟨hm, hl, q2⟩ := q2
      obtain ⟨dx, vs, h1, h2⟩ := mm2.get e1
      have hk := lookup_key e1
      have s12 := st.trans st2
      have hr : RepO X.K (ak F M2) (upd H2 a (.ins (He.ga X.K C) dx (putF f v vs))) a (.obj C (putD f d fs)) := ⟨dx, _, upd_same, (RepF.put (rp.step st2.fix) h2).step (stp_put hk).fix⟩
      refine ⟨a, _, dx, vs, rfl, h1, (hC C hm).1, (hC C hm).2, by rw [h2.len]; exact hl, ds, put M2 a (.obj C (putD f d fs)), ?_, ⟨mm2.put hk hr, ?_⟩, q2⟩
      · rw [keys_put]; exact s12.trans (stp_put hk)
      · unfold ak; rw [keys_put]; exact (hst.to s12 mm2).sl.step (stp_put hk).fix
    · exact q2.elim
  | _ => exact (show False from q2).elim
/-! ### methods -/
variable {es : List Expr} {t tk : TAD} {m C : Str} {g : Addr} {sp : SpS} {ks : List Str} {kws : List Keyword}
def dMeth (C m : Str) (sp : SpS) (to : TD) (t tk : TAD) : TD := fun ds M Z Q => to ds M Z fun o M1 => optK (clsOf o M1) fun c => c.1 = C ∧ c.2.lookup m = none ∧ t ds M1 Z fun xs M2 => tk ds M2 Z fun ys M3 => ask sp (o :: xs) ys M3 Z Q
@[simp ↓] theorem dMeth_eq (C m : Str) (sp : SpS) (to : TD) (t tk : TAD) : ∀ ds M Z Q, dMeth C m sp to t tk ds M Z Q = (to ds M Z fun o M1 => optK (clsOf o M1) fun c => c.1 = C ∧ c.2.lookup m = none ∧ t ds M1 Z fun xs M2 => tk ds M2 Z fun ys M3 => ask sp (o :: xs) ys M3 Z Q) := fun _ _ _ _ => rfl
theorem d_meth {pl : Sem Bool} (hc : Cls X.K (He.ga X.K C)) (hm : Meth X.K (He.ga X.K C) m g) (Cl : CalS X g [] sp) (ho : PD X o to) (ha : PAD X (e :: es) t) (hpl : noStars (e :: es) = true := by rfl)
    (hev : eval (.Call (.Attribute o m apos) (e :: es) [] pos) X.env = (do
      let ov ← eval o X.env
      standAt apos.atName
      let (f, first) ← holding [ov] (getMethod ov m pl)
      callWith pos f first (backTo pos (starEach (e :: es) X.env)) (backToKw pos (keywordEach [] X.env))) := by rfl) : PD X (.Call (.Attribute o m apos) (e :: es) [] pos) (dMeth C m sp to t dNil) := by
  refine ⟨fun W tks F pins s σ H ds M Z Q I hs ht => ?_⟩
  have he : notStar e = true := (Bool.and_eq_true_iff.mp (show (notStar e && es.all notStar) = true from hpl)).1
  have hes : noStars es = true := (Bool.and_eq_true_iff.mp (show (notStar e && es.all notStar) = true from hpl)).2
  refine PySem.W.methodCall_KW (pl := pl) (thn (ho.run W tks F pins s σ H ds M Z _ I hs ht) fun u s1 ⟨x, H1, d, M1, I1, rx, st, mm, rp, q⟩ => ?_) hev
  unfold optK at q
  split at q
  · rename_i c e1
    obtain ⟨C', fs⟩ := c
    obtain ⟨hC, hl, q⟩ := q
    have hC : C' = C := hC
    subst hC
    obtain ⟨a, dx, vs, rfl, h1, h2⟩ := clsOf_at mm rp e1
    obtain rfl : u = Value.ref a := rx
    refine getmeth_ok I1 h1 hc hm (h2.lookN hl) ?_
    refine PySem.W.callWith_K (first := [.ref a]) (h₀ := X.base) I.ok.mod.kin hm.kp (thn (ha.run W tks pos F pins s1 σ H1 ds M1 Z _ I1 (hs.to st mm) q) fun us s2 ⟨vs2, H2, xs, M2, I2, r, st2, mm2, rp2, q2⟩ => ⟨I2.kIn, ?_⟩) (star_cons he) (star_any hes)
    have s12 := st.trans st2
    exact thn (Cl W tks pins σ H2 s2 F M2 Z (.ref a :: us) [] (.ref a :: vs2) [] (d :: xs) [] Q I2 mm2 (hs.kx.on s12) (.cons rfl r) .nil rfl (.cons (rp.step st2.fix) rp2) .nil q2) fun u s' h => EPD.up s12 h
  · exact q.elim
theorem d_meth0 {pl : Sem Bool} (hc : Cls X.K (He.ga X.K C)) (hm : Meth X.K (He.ga X.K C) m g) (Cl : CalS X g [] sp) (ho : PD X o to)
    (hev : eval (.Call (.Attribute o m apos) [] [] pos) X.env = (do
      let ov ← eval o X.env
      standAt apos.atName
      let (f, first) ← holding [ov] (getMethod ov m pl)
      callWith pos f first (backTo pos (starEach [] X.env)) (backToKw pos (keywordEach [] X.env))) := by rfl) : PD X (.Call (.Attribute o m apos) [] [] pos) (dMeth C m sp to dNil dNil) := by
  refine ⟨fun W tks F pins s σ H ds M Z Q I hs ht => ?_⟩
  refine PySem.W.methodCall_KW (pl := pl) (thn (ho.run W tks F pins s σ H ds M Z _ I hs ht) fun u s1 ⟨x, H1, d, M1, I1, rx, st, mm, rp, q⟩ => ?_) hev
  unfold optK at q
  split at q
  · rename_i c e1
    obtain ⟨C', fs⟩ := c
    obtain ⟨hC, hl, q⟩ := q
    have hC : C' = C := hC
    subst hC
    obtain ⟨a, dx, vs, rfl, h1, h2⟩ := clsOf_at mm rp e1
    obtain rfl : u = Value.ref a := rx
    refine getmeth_ok I1 h1 hc hm (h2.lookN hl) ?_
    refine PySem.W.callWith_K0 (first := [.ref a]) I1.kIn hm.kp ?_
    exact thn (Cl W tks pins σ H1 s1 F M1 Z [.ref a] [] [.ref a] [] [d] [] Q I1 mm (hs.kx.on st) (.cons rfl .nil) .nil rfl (.cons rp .nil) .nil q) fun u s' h => EPD.up st h
  · exact q.elim
/-! ### properties -/
def dProp (C : Str) (sp : SpS) (te : TD) : TD := fun ds M Z Q => te ds M Z fun o M1 => optK (clsOf o M1) fun c => c.1 = C ∧ ask sp [o] [] M1 X0 Q
@[simp ↓] theorem dProp_eq (C : Str) (sp : SpS) (te : TD) : ∀ ds M Z Q, dProp C sp te ds M Z Q = (te ds M Z fun o M1 => optK (clsOf o M1) fun c => c.1 = C ∧ ask sp [o] [] M1 X0 Q) := fun _ _ _ _ => rfl
theorem d_prop {k : Nat} {p : Addr} (hc : Cls X.K (He.ga X.K C)) (hp : PropOf X.K (He.ga X.K C) f p g) (Fn : FnS X.prog X.w X.K X.mg X.base k g [] sp) (hr : Room (k + 1) X.A) (he : PD X e te) (hb : attributeBase e f X.env (eval e X.env) = eval e X.env := by rfl) : PD X (.Attribute e f pos) (dProp C sp te) := by
  refine ⟨fun W tks F pins s σ H ds M Z Q I hs ht => ?_⟩
  refine attr_of hb (thn (he.run W tks F pins s σ H ds M Z _ I hs ht) fun u s1 ⟨x, H1, d, M1, I1, rx, st, mm, rp, q⟩ => ?_)
  unfold optK at q
  split at q
  · rename_i c e1
    obtain ⟨C', fs⟩ := c
    obtain ⟨hC, q⟩ := q
    have hC : C' = C := hC
    subst hC
    obtain ⟨a, dx, vs, rfl, h1, h2⟩ := clsOf_at mm rp e1
    obtain rfl : u = Value.ref a := rx
    obtain ⟨mA, O, _, _, _, _⟩ := ins_get I1.hok h1
    obtain ⟨od, J, _⟩ := O.look
    obtain ⟨rest, hrec⟩ := hp.rec_
    have I2 := I1.tok (s1.toks + 1)
    have hcs : (PySem.W.clsIn X.K (He.ga X.K C')).isSome = true := by
      obtain ⟨cd, hcd, _⟩ := PySem.W.any_some hc.hd
      rw [hcd]
      rfl
    refine PySem.W.get_bind I1.kIn J (PySem.W.plainGet_of (hc.get f)).1 (PySem.W.findObj_data hcs hp.at_ hp.get hp.tak) (PySem.W.plainGet_of (hc.get f)).2 (wpAny_call (PySem.W.prop_get (s := { s1 with toks := s1.toks + 1 }) I1.kIn hrec ?_))
    refine codeAny_mono (Fn X.A.in1 X.stack { s1 with toks := s1.toks + 1 } H1 [.ref a] [] [.ref a] [] F [d] [] M1 X0 Q (EQ X.K F H1 M1 Q) (fun _ _ _ => False) hr.in1 I2.env0.in1 (.cons rfl .nil) .nil rfl mm (.cons rp .nil) .nil q KQ.eq fun C fs vs d H' M' st' mm' e n r q => q.elim) fun r s' hq => ?_
    cases r with
    | error er =>
      obtain ⟨_, _, _, _, _, _, _, _, _, _, _, _, z⟩ := hq
      exact z.elim
    | ok fl =>
      cases fl with
      | ret u =>
        obtain ⟨v, H', I3, rv, d', M', st', mm', rp', q3⟩ := I2.after hq
        show wpAny _ _ (handedOut u) _ _ _
        rw [PySem.W.handedOut_of (handed_of rv)]
        exact wpAny_pure ⟨v, H', d', M', I3, rv, st.trans st', mm', rp', q3⟩
      | next => exact False.elim hq
      | brk => exact False.elim hq
      | cont => exact False.elim hq
  · exact q.elim
end
end L2.Dl

namespace L2.Dl
open PySem PySem.Spec PyProof.Rows
/-! ### errors: classes over ValueError, LookupError, IndexError -/
structure BaseX (B newId i : String) (bmB : List Value) : Prop where
  eb : ExcBaseFacts B newId i bmB
  kx : PySem.W.KxsFacts B i
  sf : StoreFacts B bmB "object.__setattr__" "object"
theorem bx_V : BaseX "ValueError" "ValueError.__new__" "ValueError.__init__" [.type "ValueError", .type "Exception", .type "BaseException", .type "object"] := ⟨F.excBase_ValueError, PySem.W.kxs_ValueError, F.store_ValueError⟩
theorem bx_L : BaseX "LookupError" "LookupError.__new__" "LookupError.__init__" [.type "LookupError", .type "Exception", .type "BaseException", .type "object"] := ⟨F.excBase_LookupError, PySem.W.kxs_LookupError, F.store_LookupError⟩
theorem bx_I : BaseX "IndexError" "IndexError.__new__" "IndexError.__init__" [.type "IndexError", .type "LookupError", .type "Exception", .type "BaseException", .type "object"] := ⟨F.excBase_IndexError, PySem.W.kxs_IndexError, F.store_IndexError⟩
/-- an error as it is made: no dict | a dict -/
abbrev eO (C t : Addr) (d : Option Addr) : Obj := { cls := .ref C, dict := d, data := .fields #[.ref t, .none, .none, .none, .bool false, .none] }
section
variable {prog : Program} {w : World} {M : Model} {A : Around} {E : Value → Shared → Prop} {R : Result → Shared → Prop} {h : Heap} {g : Array GenState} {d : Drawn} {t : Nat} {os : OsState}
variable {nm q : Str} {C N : Addr} {bs bm bmB : List Value} {hdct : Bool} {sn : List Str} {sub : List Value} {ab : Bool} {col : Option Bool} {dd : Option Addr} {k0 k1 k2 k3 k5 : Option Value} {B newId initId : String}
/-! #### made by values and keywords -/
theorem chk_newK (F : ExcBaseFacts B newId initId bmB) (hT : ∀ X : String, bm.contains (.type X) = bmB.contains (.type X)) {rest : List Value} {kw : List (Str × Value)} {Q : Unit → Shared → Prop}
    (hC : h.get? C = some (excClassObj nm q C N bs bm hdct sn sub ab col dd k0 k1 k2 k3 k5 newId)) (z : Q () ⟨h, g, d, t, os⟩) : wpAny M A (checkBuiltinCall newId ⟨.ref C :: rest, kw⟩) Q E ⟨h, g, d, t, os⟩ := by
  have h1 : (Value.ref C :: bm).contains (.type B) = true := by rw [List.contains_cons, hT, F.hasB, Bool.or_true]
  have h2 := F.noStar
  simp only [checkBuiltinCall, F.newKind, F.newSplit, F.newRow]
  repeat (first | refine wpAny_staticBase_exc hC ?_ | refine wpAny_madeBy_exc hC ?_ | refine wpAny_loadPart_at hC ?_ | (refine wpAny_isSubtype_exc hC ?_; rw [h1]) | wp_step | simp only [bne_self_eq_false, Bool.false_eq_true, if_false])
  exact z
theorem new_K (F : ExcBaseFacts B newId initId bmB) (hT : ∀ X : String, bm.contains (.type X) = bmB.contains (.type X)) {rest : List Value} {kw : List (Str × Value)}
    (hC : h.get? C = some (excClassObj nm q C N bs bm hdct sn sub ab col dd k0 k1 k2 k3 k5 newId))
    (z : R (.ok (.ret (.ref (h.objs.size + 1)))) ⟨(h.push (PySem.W.kdv_tup rest)).push (eO C h.objs.size none), g, d, t, os⟩) (hr : rest.length ≤ sizeLine) :
    codeAny (model prog w) A (.builtin newId ⟨.ref C :: rest, kw⟩) R ⟨h, g, d, t, os⟩ := by
  have e0 := F.ends
  have h1 : (Value.ref C :: bm).contains (.type B) = true := by rw [List.contains_cons, hT, F.hasB, Bool.or_true]
  have h2 : (Value.ref C :: bm).contains (.type "AttributeError") = false := by rw [List.contains_cons, hT, F.noAttr]; rfl
  have h3 : (Value.ref C :: bm).contains (.type "NameError") = false := by rw [List.contains_cons, hT, F.noName]; rfl
  refine codeAny_builtinAt F.entry ?_
  unfold Builtin.«BaseException.__new__»
  refine _root_.PySem.wpAt_bind ?_
  show _root_.PySem.wpAt _ _ _ (stack >>= _) _ _ _
  refine _root_.PySem.wpAt_bind (_root_.PySem.wpAt_stack fun p0 lower => _root_.PySem.wpAt_of_wpAny ?_)
  wp_walk
  refine _root_.PySem.wpAt_of_wpAny ?_
  rw [F.owner]
  repeat (first | with_reducible refine wpAny_loadPart_at hC ?_ | with_reducible refine wpAny_madeHere_exc F.canon hC ?_ | (with_reducible refine wpAny_isSubtype_exc hC ?_; first | rw [h1] | rw [h2] | rw [h3]) | wp_step)
  show R _ _
  rw [Heap.size_push]
  exact z
theorem type_callK (F : ExcBaseFacts B newId initId bmB) (hT : ∀ X : String, bm.contains (.type X) = bmB.contains (.type X)) {rest : List Value} {kw : List (Str × Value)} {fI : Addr} {Q : Fin → Shared → Prop}
    (hC : h.get? C = some (excClassObj nm q C N bs bm hdct sn sub ab col dd k0 k1 k2 k3 k5 newId))
    (hi : PySem.W.Looks (model prog w) h (typeLookup (.ref C) "__init__") (some (.ref fI))) (hb : ∀ self, PySem.W.Looks (model prog w) h (bindSpecial (.ref fI) self) (.ref fI, [self])) (hr : rest.length ≤ sizeLine)
    (hq : codeAny (model prog w) A (.call (.ref fI) ⟨.ref (h.objs.size + 1) :: rest, kw⟩)
      (fun r s' => match r with | .ok (.ret v) => v = .none ∧ Q (.done (.ret (.ref (h.objs.size + 1)))) s' | .ok _ => False | .error e => E e s')
      ⟨(h.push (PySem.W.kdv_tup rest)).push (eO C h.objs.size none), g, d, t, os⟩) :
    wpAny (model prog w) A (Builtin.«type.__call__» ⟨.ref C :: rest, kw⟩) Q E ⟨h, g, d, t, os⟩ := by
  repeat (first | with_reducible refine wpAny_madeBy_exc hC ?_ | with_reducible refine wpAny_loadPart_at hC ?_ | wp_step)
  refine codeAny_call_builtin_code (Code.quiet_builtin _ F.quiet) (chk_newK F hT hC ?_)
  refine new_K F hT hC ?_ hr
  show wpAny _ _ _ _ _ _
  have kp : ∀ b o, h.get? b = some o → ((h.push (PySem.W.kdv_tup rest)).push (eO C h.objs.size none)).get? b = some o := fun b o e => Heap.get?_push_of_some _ (Heap.get?_push_of_some _ e)
  have hC1 := kp _ _ hC
  have hg : ((h.push (PySem.W.kdv_tup rest)).push (eO C h.objs.size none)).get? (h.objs.size + 1) = some (eO C h.objs.size none) := by heap_get
  have hcC : (Value.ref C :: bm).contains (.ref C) = true := by simp
  have j1 := hi.keeps kp
  have j2 := (hb (.ref (h.objs.size + 1))).keeps kp
  unfold isInstance
  repeat (first | with_reducible refine wpAny_loadPart_at hg ?_ | (with_reducible refine wpAny_isSubtype_exc hC1 ?_; rw [hcC]) | wp_step)
  show wpAny _ _ (typeLookup (.ref C) _) _ _ _
  refine j1.at ?_
  refine wpAny_holding (wpAny_bind (j2.at ?_))
  refine wpAny_bind (wpAny_call (codeAny_mono hq fun r s' z => ?_))
  rcases r with e | (v | _ | _ | _) <;> first | exact z | exact z.elim | skip
  obtain ⟨rfl, z⟩ := z
  first
    | exact wpAny_pure (wpAny_pure z)
    | (wp_walk; exact z)
theorem call_K (F : ExcBaseFacts B newId initId bmB) (hT : ∀ X : String, bm.contains (.type X) = bmB.contains (.type X)) {rest : List Value} {kw : List (Str × Value)} {fI : Addr}
    (hC : h.get? C = some (excClassObj nm q C N bs bm hdct sn sub ab col dd k0 k1 k2 k3 k5 newId))
    (hi : PySem.W.Looks (model prog w) h (typeLookup (.ref C) "__init__") (some (.ref fI))) (hb : ∀ self, PySem.W.Looks (model prog w) h (bindSpecial (.ref fI) self) (.ref fI, [self])) (hr : rest.length ≤ sizeLine)
    (hq : codeAny (model prog w) (A.under (.builtin "type.__call__" ⟨.ref C :: rest, kw⟩)) (.call (.ref fI) ⟨.ref (h.objs.size + 1) :: rest, kw⟩) (PySem.W.InitBack (h.objs.size + 1) R)
      ⟨(h.push (PySem.W.kdv_tup rest)).push (eO C h.objs.size none), g, d, t, os⟩) :
    codeAny (model prog w) A (.call (.ref C) ⟨rest, kw⟩) R ⟨h, g, d, t, os⟩ := by
  have f1 := tc_lookup
  have f2 := tc_bind (.ref C)
  have hTy : (⟨h, g, d, t, os⟩ : Shared).TypeIs (.ref C) "type" := ⟨_, hC, rfl⟩
  refine codeAny_of_tree ?_
  show wpAny _ _ (callAny (.ref C) _) _ _ _
  repeat (any_goals (first | with_reducible refine wpAny_loadPart_at hC ?_ | assumption | wp_step))
  refine ⟨rfl, ?_⟩
  refine codeAny_call_builtin_at (Code.quiet_builtin _ (by decide +kernel)) entry_typeCall (wpAny_check_type_call_sub hC (type_callK F hT hC hi hb hr ?_))
  refine codeAny_mono hq fun r s' z => ?_
  rcases r with e | (v | _ | _ | _) <;> exact z
end
end L2.Dl

namespace L2.Dl
open PySem PySem.Spec
open Builtin.ObjectAttr
section
variable {prog : Program} {w : World} {A : Around} {E : Value → Shared → Prop} {hp : Heap} {g : Array GenState} {d : Drawn} {t : Nat} {os : OsState} {K : PySem.W.Frag} {B newId i : String} {bmB : List Value} {x C t0 dx : Addr} {name : Str} {v : Value} {Q : Unit → Shared → Prop}
/-- self.name = v, the first one: a dict is laid -/
theorem eset_new (SF : StoreFacts B bmB "object.__setattr__" "object") (X : K.In hp) (hx : hp.get? x = some (eO C t0 none)) (sa : PySem.W.findIn K (.ref C) "__setattr__" = some (some (.builtin "object.__setattr__"))) (ov : PySem.W.excOver K C bmB = true) (tk : PySem.W.takerIn K C name = some none) (hd : PySem.W.hasDictIn K C = true)
    (hq : ∀ h' tk' dx, (∀ b o, b ≠ x → hp.get? b = some o → h'.get? b = some o) → hp.objs.size ≤ dx → dx ≠ x → h'.get? x = some (eO C t0 (some dx)) → h'.Ns1 dx (fun y => if y = name then some v else none) → Q () ⟨h', g, d, tk', os⟩) :
    wpAny (model prog w) A (setAttr (.ref x) name v) Q E ⟨hp, g, d, t, os⟩ := by
  have I : PySem.W.InstAt hp x (eO C t0 none) C none := ⟨hx, rfl, rfl, trivial⟩
  have hxs : x ≠ hp.objs.size := Nat.ne_of_lt (Heap.lt_size hx)
  refine PySem.W.set_plain (od := none) X I sa (PySem.W.osa_openX (s := ⟨hp, g, d, t + 1, os⟩) (od := none) SF X I ov tk fun b => ?_)
  obtain ⟨cd, hc, hd'⟩ := PySem.W.any_some hd
  have hcls : PySem.W.Looks (model prog w) hp (classData C) cd := PySem.W.looks_clsIn X hc
  refine wpAny_bind (wpAny_pure (wpAny_bind (PySem.W.instanceDict_exc hx hcls hd' ?_)))
  show wpAny _ _ (storeInDict hp.objs.size (.str name t) name v) _ _ _
  refine HandSPX.store_in_new ?_ fun h' tk' hn hs => ?_
  · exact ⟨_, #[], _, (Heap.get?_update_ne _ _ _ _ hxs.symm).trans (Heap.get?_push_at rfl rfl), rfl, fun e he => absurd he (by simp), fun _ => rfl⟩
  · have hx1 : (hp.push (PySem.W.dictOf [] 0)).get? x = some (eO C t0 none) := Heap.get?_push_of_some _ hx
    refine hq h' tk' hp.objs.size (fun b o hb ho => ?_) (Nat.le_refl _) hxs.symm ?_ hn
    · exact (hs.2 b (Nat.ne_of_lt (Heap.lt_size ho))).trans ((Heap.get?_update_ne _ _ _ _ hb).trans (Heap.get?_push_of_some _ ho))
    · exact (hs.2 x hxs).trans (Heap.get?_update_self _ hx1 rfl)
/-- a further one -/
theorem eset_old {m0 : Str → Option Value} {nl : List Str} (SF : StoreFacts B bmB "object.__setattr__" "object") (X : K.In hp) (hx : hp.get? x = some (eO C t0 (some dx))) (hns : hp.Ns1 dx m0) (hw : Within m0 nl) (hz : nl.length ≤ 1000) (sa : PySem.W.findIn K (.ref C) "__setattr__" = some (some (.builtin "object.__setattr__"))) (ov : PySem.W.excOver K C bmB = true) (tk : PySem.W.takerIn K C name = some none) (hd : PySem.W.hasDictIn K C = true)
    (hq : ∀ h' tk', (∀ b o, b ≠ dx → hp.get? b = some o → h'.get? b = some o) → h'.Ns1 dx (fun y => if y = name then some v else m0 y) → Q () ⟨h', g, d, tk', os⟩) :
    wpAny (model prog w) A (setAttr (.ref x) name v) Q E ⟨hp, g, d, t, os⟩ := by
  obtain ⟨oD, esD, epD, hoD, hdD, _⟩ := hns.count hw
  have I : PySem.W.InstAt hp x (eO C t0 (some dx)) C (some oD) := ⟨hx, rfl, rfl, hoD⟩
  refine PySem.W.set_plain (od := some oD) X I sa (PySem.W.osa_openX (s := ⟨hp, g, d, t + 1, os⟩) (od := some oD) SF X I ov tk fun b => ?_)
  obtain ⟨cd, hc, hd'⟩ := PySem.W.any_some hd
  have hcls : PySem.W.Looks (model prog w) hp (classData C) cd := PySem.W.looks_clsIn X hc
  refine wpAny_bind (wpAny_pure (wpAny_bind (wpAny_bind (wpAny_loadPart hx (wpAny_bind (hcls.at ?_))))))
  rw [hd']
  refine wpAny_pure (a := some dx) ?_
  exact OEX.store_in_old hns hw hz fun h' tk' hn hs => hq h' tk' (fun b o hb ho => (hs.2 b hb).trans ho) hn
end
/-! ### the class, by the written part -/
structure ErrC (P : Program) (K : PySem.W.Frag) (C : Addr) (B newId i : String) (bmB : List Value) (fI cda cc : Addr) (qual : Str) (params : Arguments) (body : List Stmt) (scope : Scope) : Prop where
  bx : BaseX B newId i bmB
  mkx : PySem.W.excInitIn K C bmB newId = true
  ov : PySem.W.excOver K C bmB = true
  ini : PySem.W.findIn K (.ref C) "__init__" = some (some (.ref fI))
  fn : PySem.W.isFn K (.ref fI) = true
  fd : ∃ oc od nm kV doc pm an ct osl, K.lookup fI = some ⟨oc, od, .func (PySem.W.ksFn nm qual params body scope .none kV doc pm an (.ref cda) ct cc), osl⟩
  cd : PySem.W.codeIn K (.ref cda) qual = true
  co : ∃ ccl cdd vs ccs file tf, K.lookup cda = some ⟨ccl, cdd, .fields vs, ccs⟩ ∧ vs[2]? = some (.str file tf) ∧ ((P.main.file : Str) == file) = true
  ce : ∃ cl cld csl, K.lookup cc = some ⟨cl, cld, .cell (some (.ref C)), csl⟩
  mr : PySem.W.mroIn K C (.ref C) = some true
  su : PySem.W.nsIn K mainGlobals "super" = some none
  tp : PySem.W.nsIn K cStatics "thirdparty.any" = some none
  si : PySem.W.ks_superIn K C C "__init__" = some (some (.builtin i))
  sb : PySem.W.subIn K (.ref C) (.type B) = some true
  sa : PySem.W.findIn K (.ref C) "__setattr__" = some (some (.builtin "object.__setattr__"))
  hd : PySem.W.hasDictIn K C = true
  cl : (PySem.W.clsIn K C).isSome = true
  ts : (P.main.scope.names.lookup ("super" : Str)).isSome = false
section
variable {P : Program} {w : World} {K : PySem.W.Frag} {mg : Str → Option Value} {base : Heap} {A : Around} {E : Value → Shared → Prop} {hp : Heap} {g : Array GenState} {d : Drawn} {t : Nat} {os : OsState}
variable {C fI cda cc e t0 L : Addr} {B newId i : String} {bmB : List Value} {qual : Str} {params : Arguments} {body : List Stmt} {scope : Scope} {ar : Arg} {m : Str → Option Value} {Q : Value → Shared → Prop}
/-- super().__init__('..') -/
theorem esup {body' : List Stmt} {p0 p1 p2 p3 p4 : Pos} {j : Nat} {lit : Str} {pl : Sem Bool} (c : ErrC P K C B newId i bmB fI cda cc qual params body scope) (md : Mod K mg base) (bk : ∀ b o, base.get? b = some o → hp.get? b = some o)
    (hL : hp.Ns L m) (he : hp.get? e = some (eO C t0 none)) (hpa : (params.posonlyargs ++ params.args).head? = some ar) (hv : m ar.arg = some (.ref e))
    (hks : scope.names.lookup ("super" : Str) = some .globalImplicit) (hkc : scope.names.lookup ("__class__" : Str) = some .free) (hka : scope.names.lookup ar.arg = some .local) (hk : scope.kind = .function)
    (hq : ∀ v h' t1 tk, (∀ b o, b ≠ e → hp.get? b = some o → h'.get? b = some o) → h'.get? e = some (eO C t1 none) → Q v ⟨h', g, d, tk, os⟩)
    (ht : eval (.Call (.Attribute (.Call (.Name "super" p0) [] [] p1) "__init__" p2) [.Constant (.str lit) j p3] [] p4) (PySem.W.ksEnv qual scope L fI (.ref cda) cc) = (do
      let ov ← attributeBase (.Call (.Name "super" p0) [] [] p1) "__init__" (PySem.W.ksEnv qual scope L fI (.ref cda) cc) (eval (.Call (.Name "super" p0) [] [] p1) (PySem.W.ksEnv qual scope L fI (.ref cda) cc))
      standAt p2.atName
      let (f, first) ← holding [ov] (getMethod ov "__init__" pl)
      callWith p4 f first (backTo p4 (starEach [.Constant (.str lit) j p3] (PySem.W.ksEnv qual scope L fI (.ref cda) cc))) [])) :
    _root_.PySem.wpAt (model P w) A (.func body' (PySem.W.ksEnv qual scope L fI (.ref cda) cc)) (eval (.Call (.Attribute (.Call (.Name "super" p0) [] [] p1) "__init__" p2) [.Constant (.str lit) j p3] [] p4) (PySem.W.ksEnv qual scope L fI (.ref cda) cc)) Q E ⟨hp, g, d, t, os⟩ := by
  have X : K.In hp := md.kin.keeps bk
  obtain ⟨oc, od, nm, kV, doc, pm, an, ct, osl, hf⟩ := c.fd
  obtain ⟨ccl, cdd, vs, ccs, file, tf, hco, hvs, hfile⟩ := c.co
  obtain ⟨cl, cld, csl, hce⟩ := c.ce
  obtain ⟨cdC, hcC⟩ := Option.isSome_iff_exists.mp c.cl
  obtain ⟨oD, hD1, hD2⟩ : ∃ oD, hp.get? C = some oD ∧ oD.data = .cls cdC := by
    unfold PySem.W.clsIn at hcC
    split at hcC
    · rename_i c1 d1 cd1 sl1 ho
      cases hcC
      exact ⟨_, X _ _ ho, rfl⟩
    · cases hcC
  obtain ⟨mb, hb1, hb2⟩ := md.blt
  have I : PySem.W.InstAt hp e (eO C t0 none) C none := ⟨he, rfl, rfl, trivial⟩
  refine ks_wpAt_MethodCall (pl := pl) ?_ ht
  refine ks_wpAt_super_base (env := PySem.W.ksEnv qual scope L fI (.ref cda) cc) hks hkc (by decide) rfl (X _ _ hf) rfl hpa rfl (X _ _ hco) rfl hvs hfile c.ts ?_
  refine PySem.W.ks_loadName_global hk hks (Calls.loadGlobal_builtin (env := PySem.W.ksEnv qual scope L fI (.ref cda) cc) (md.glob.keeps bk) (PySem.W.mg_none_of md.kin md.glob c.su) (hb1.keeps bk) ((hb2 "super" (by decide)).trans (show bootBuiltins "super" = some (.type "super") by kernel_rfl)) ⟨rfl, ?_⟩)
  refine wpAny_loadName_free hk hkc rfl ⟨_, X _ _ hce, rfl⟩ ?_
  refine wpAny_loadName_local hk hka hL hv ?_
  refine ks_wpAny_isType_cls hD1 hD2 ⟨rfl, ?_⟩
  refine ks_wpAny_call_super hD1 hD2 he rfl (fun c z => nomatch z) (PySem.W.looks_mroIn X c.mr) (fun h1 e1 k1 => ?_)
  have X1 : K.In h1 := X.keeps k1
  have he1 := k1 _ _ he
  have I1 : PySem.W.InstAt h1 e (eO C t0 none) C none := ⟨he1, rfl, rfl, trivial⟩
  have hsi := c.si
  unfold PySem.W.ks_superIn at hsi
  rw [hcC] at hsi
  refine PySem.W.kxs_getMethod c.bx.kx e1 (PySem.W.looks_opaque X1 c.tp) (l₀ := cdC.mro) ((PySem.W.looks_clsIn X1 hcC).andThen .now) rfl X1 hsi (I1.type.andThen (PySem.W.looks_subIn X1 c.sb)) (PySem.W.ks_ne X1 I1 hcC) (by decide) ?_
  have k2 : ∀ b o, h1.get? b = some o → (h1.push (PySem.W.kxs_mw i e)).get? b = some o := fun b o z => Heap.get?_push_of_some _ z
  have hu : (h1.push (PySem.W.kxs_mw i e)).get? h1.objs.size = some (PySem.W.kxs_mw i e) := Heap.get?_push_size _ rfl
  show wpAny _ _ (callWith p4 (Value.ref h1.objs.size) [] _ []) _ _ _
  refine PySem.W.kxs_callWith (i := i) (x := e) rfl (Calls.evalArgs_plain ?_)
  show wpAny (model P w) A (spliced [(false, eval (.Constant (.str lit) j p3) (PySem.W.ksEnv qual scope L fI (.ref cda) cc))]) _ _ _
  refine Calls.spliced_cons (wpAny_Constant_str (Calls.spliced_nil ⟨hu, ?_⟩))
  refine wpAny_call (codeAny_of_tree ?_)
  show wpAny _ A.in1 (callAny (.ref h1.objs.size) ⟨[.str lit _], []⟩) _ _ _
  simp only [callAny]
  refine wpAny_bind (wpAny_load hu ?_)
  simp only [PySem.W.kxs_mw, show (Value.type "method-wrapper" == Value.type "method" || Value.type "method-wrapper" == Value.type "builtin_function_or_method" || Value.type "method-wrapper" == Value.type "method-wrapper") = true by decide, if_true]
  refine PySem.W.KFB.if_so (by decide) ?_
  obtain ⟨nm1, N1, qn1, bs1, bm1, hd1, sn1, sub1, ab1, col1, dd1, a0, a1, a2, a3, a5, hCo, _⟩ := PySem.W.excInit_of (X1.keeps k2) c.mkx
  refine wpAny_bind (PySem.W.check_bound_init c.bx.eb.toExcCallFacts hCo (k2 _ _ he1) rfl ?_)
  refine wpAny_bind (wpAny_pure (wpAny_pure ?_))
  refine ⟨plainId_quiet c.bx.eb.init.plain _, codeAny_builtin c.bx.eb.initEntry ?_⟩
  refine PySem.W.exc_init_tree (cls := .ref C) (t0 := t0) (dv := none) (c2 := .none) (c3 := .none) (b4 := .bool false) (k2 _ _ he1) (by rw [sizeLine_eq]; simp) fun h' k' e' _ => ?_
  exact hq _ h' _ _ (fun b o hb ho => k' b o hb (k2 _ _ (k1 _ _ ho))) e'
abbrev supE (lit : Str) (p0 p1 p2 p3 p4 : Pos) (j : Nat) : Expr := .Call (.Attribute (.Call (.Name "super" p0) [] [] p1) "__init__" p2) [.Constant (.str lit) j p3] [] p4
/-- the dict of an error -/
def eMap (fs : List (Str × Value)) : Str → Option Value := fun y => fs.lookup y
theorem ns_keep {h h' : Heap} {L : Addr} {m : Str → Option Value} (n : h.Ns L m) (k : ∀ o, h.get? L = some o → h'.get? L = some o) : h'.Ns L m := by
  obtain ⟨oL, es, ep, ho, r⟩ := n
  exact ⟨oL, es, ep, k _ ho, r⟩
theorem ns1_keep {h h' : Heap} {L : Addr} {m : Str → Option Value} (n : h.Ns1 L m) (k : ∀ o, h.get? L = some o → h'.get? L = some o) : h'.Ns1 L m := by
  obtain ⟨oL, es, ep, ho, r⟩ := n
  exact ⟨oL, es, ep, k _ ho, r⟩
/-- def __init__(self): super().__init__('..'); self.code = '..' -/
theorem einit0 {R : Result → Shared → Prop} {us : List Value} {kw : List (Str × Value)} {lit lit2 : Str} {p0 p1 p2 p3 p4 q1 a0 a1 a2 a3 : Pos} {j j2 : Nat}
    (c : ErrC P K C B newId i bmB fI cda cc qual params [.Expr (supE lit p0 p1 p2 p3 p4 j) q1, .Assign [.Attribute (.Name "self" a0) "code" a1] (.Constant (.str lit2) j2 a2) a3] scope)
    (tk1 : PySem.W.takerIn K C "code" = some none) (md : Mod K mg base) (bk : ∀ b o, base.get? b = some o → hp.get? b = some o) (ebs : base.get? e = none) (he : hp.get? e = some (eO C t0 none)) (hroom : A.depth < recursionLimit)
    (hbind : ∀ nm kV doc pm an ct, bindArgs (PySem.W.ksFn nm qual params [.Expr (supE lit p0 p1 p2 p3 p4 j) q1, .Assign [.Attribute (.Name "self" a0) "code" a1] (.Constant (.str lit2) j2 a2) a3] scope .none kV doc pm an (.ref cda) ct cc) ⟨us, kw⟩ = pure [(("self" : Str), Value.ref e)])
    (hpa : (params.posonlyargs ++ params.args).head? = some ar) (har : ar.arg = ("self" : Str))
    (hks : scope.names.lookup ("super" : Str) = some .globalImplicit) (hkc : scope.names.lookup ("__class__" : Str) = some .free) (hka : scope.names.lookup ("self" : Str) = some .local)
    (hcell : ∀ x ∈ scope.names, x.2 ≠ .cell) (hco : scope.isCoroutine = false) (hgen : scope.isGenerator = false) (hk : scope.kind = .function)
    (ht : ∀ L, ∃ pl : Sem Bool, eval (supE lit p0 p1 p2 p3 p4 j) (PySem.W.ksEnv qual scope L fI (.ref cda) cc) = (do
      let ov ← attributeBase (.Call (.Name "super" p0) [] [] p1) "__init__" (PySem.W.ksEnv qual scope L fI (.ref cda) cc) (eval (.Call (.Name "super" p0) [] [] p1) (PySem.W.ksEnv qual scope L fI (.ref cda) cc))
      standAt p2.atName
      let (f, first) ← holding [ov] (getMethod ov "__init__" pl)
      callWith p4 f first (backTo p4 (starEach [.Constant (.str lit) j p3] (PySem.W.ksEnv qual scope L fI (.ref cda) cc))) []))
    (hq : ∀ h' t1 dx tk tk2, (∀ b o, b ≠ e → hp.get? b = some o → h'.get? b = some o) → h'.get? e = some (eO C t1 (some dx)) → hp.objs.size ≤ dx → h'.Ns1 dx (fun y => if y = "code" then some (.str lit2 tk2) else none) → R (.ok (.ret .none)) ⟨h', g, d, tk, os⟩) :
    codeAny (model P w) A (.call (.ref fI) ⟨us, kw⟩) R ⟨hp, g, d, t, os⟩ := by
  have X : K.In hp := md.kin.keeps bk
  obtain ⟨oc, od, nm, kV, doc, pm, an, ct, osl, hf⟩ := c.fd
  have heL : e < hp.objs.size := Heap.lt_size he
  obtain ⟨pl, htl⟩ := ht hp.objs.size
  have hLe : hp.objs.size ≠ e := Nat.ne_of_gt heL
  have hbe : ∀ b o, base.get? b = some o → b ≠ e := fun b o z q => by rw [q, ebs] at z; cases z
  refine ks_codeAny_call_defAt (s := ⟨hp, g, d, t, os⟩) hroom (X _ _ hf) rfl (md.nolimit.keeps bk) (PySem.W.codeRec_of X c.cd) rfl (BindsTo.of_eq (hbind nm kV doc pm an ct)) hcell (fun x hx => by simp at hx; subst hx; exact hka) (fun h0 hns k0 => ?_) hco hgen hk
  have hns : h0.Ns hp.objs.size (fun x => List.lookup x [(("self" : Str), Value.ref e)]) := hns
  have k0 : ∀ b o, hp.get? b = some o → h0.get? b = some o := k0
  have sv : List.lookup ("self" : Str) [(("self" : Str), Value.ref e)] = some (Value.ref e) := rfl
  show _root_.PySem.wpAt _ _ (.func _ (PySem.W.ksEnv qual scope hp.objs.size fI (.ref cda) cc)) (execs _ (PySem.W.ksEnv qual scope hp.objs.size fI (.ref cda) cc)) _ _ _
  refine ks_wpAt_execs_cons (ks_wpAt_Expr_any (esup c md (fun b o z => k0 _ _ (bk b o z)) hns (k0 _ _ he) hpa (by rw [har]; exact sv) hks hkc (by rw [har]; exact hka) hk (fun v h1 t1 tka kk1 e1 => ?_) htl) (hi := by unfold interactive; rw [show (PySem.W.ksEnv qual scope hp.objs.size fI (Value.ref cda) cc).scope.kind = .function from hk]; rfl))
  have kh1 : ∀ b o, b ≠ e → hp.get? b = some o → h1.get? b = some o := fun b o hb z => kk1 b o hb (k0 b o z)
  have X1 : K.In h1 := md.kin.keeps fun b o z => kh1 b o (hbe b o z) (bk b o z)
  have n1 := ns_keep hns fun o z => kk1 _ o hLe z
  refine ks_wpAt_execs_cons (ks_wpAt_Assign_Attr (_root_.PySem.wpAt_of_wpAny (wpAny_Constant_str (wpAny_Name (wpAny_loadName_local hk hka n1 sv ?_)))))
  refine eset_new c.bx.sf X1 e1 c.sa c.ov tk1 c.hd fun h2 tkb dx k2 dl dne e2 d2 => ?_
  refine _root_.PySem.wpAt_of_wpAny ?_
  rw [execs_nil]
  refine wpAny_pure ?_
  refine hq h2 t1 dx tkb _ (fun b o hb z => k2 b o hb (kh1 b o hb z)) e2 ?_ d2
  exact Nat.le_trans (Nat.le_of_lt (n1.lt)) dl
/-- .. self.pn = pn -/
theorem einit1 {R : Result → Shared → Prop} {us : List Value} {kw : List (Str × Value)} {lit lit2 pn : Str} {p0 p1 p2 p3 p4 q1 a0 a1 a2 a3 b0 b1 b2 b3 : Pos} {j j2 : Nat} {u : Value}
    (c : ErrC P K C B newId i bmB fI cda cc qual params [.Expr (supE lit p0 p1 p2 p3 p4 j) q1, .Assign [.Attribute (.Name "self" a0) "code" a1] (.Constant (.str lit2) j2 a2) a3, .Assign [.Attribute (.Name "self" b0) pn b1] (.Name pn b2) b3] scope)
    (tk1 : PySem.W.takerIn K C "code" = some none) (tk2 : PySem.W.takerIn K C pn = some none) (hpn : pn ≠ ("self" : Str)) (hdb : (pn == ("__debug__" : Str)) = false) (hkp : scope.names.lookup pn = some .local) (md : Mod K mg base) (bk : ∀ b o, base.get? b = some o → hp.get? b = some o) (ebs : base.get? e = none) (he : hp.get? e = some (eO C t0 none)) (hroom : A.depth < recursionLimit)
    (hbind : ∀ nm kV doc pm an ct, bindArgs (PySem.W.ksFn nm qual params [.Expr (supE lit p0 p1 p2 p3 p4 j) q1, .Assign [.Attribute (.Name "self" a0) "code" a1] (.Constant (.str lit2) j2 a2) a3, .Assign [.Attribute (.Name "self" b0) pn b1] (.Name pn b2) b3] scope .none kV doc pm an (.ref cda) ct cc) ⟨us, kw⟩ = pure [(("self" : Str), Value.ref e), (pn, u)])
    (hpa : (params.posonlyargs ++ params.args).head? = some ar) (har : ar.arg = ("self" : Str))
    (hks : scope.names.lookup ("super" : Str) = some .globalImplicit) (hkc : scope.names.lookup ("__class__" : Str) = some .free) (hka : scope.names.lookup ("self" : Str) = some .local)
    (hcell : ∀ x ∈ scope.names, x.2 ≠ .cell) (hco : scope.isCoroutine = false) (hgen : scope.isGenerator = false) (hk : scope.kind = .function)
    (ht : ∀ L, ∃ pl : Sem Bool, eval (supE lit p0 p1 p2 p3 p4 j) (PySem.W.ksEnv qual scope L fI (.ref cda) cc) = (do
      let ov ← attributeBase (.Call (.Name "super" p0) [] [] p1) "__init__" (PySem.W.ksEnv qual scope L fI (.ref cda) cc) (eval (.Call (.Name "super" p0) [] [] p1) (PySem.W.ksEnv qual scope L fI (.ref cda) cc))
      standAt p2.atName
      let (f, first) ← holding [ov] (getMethod ov "__init__" pl)
      callWith p4 f first (backTo p4 (starEach [.Constant (.str lit) j p3] (PySem.W.ksEnv qual scope L fI (.ref cda) cc))) []))
    (hq : ∀ h' t1 dx tk tk2, (∀ b o, b ≠ e → hp.get? b = some o → h'.get? b = some o) → h'.get? e = some (eO C t1 (some dx)) → hp.objs.size ≤ dx → h'.Ns1 dx (fun y => if y = pn then some u else if y = "code" then some (.str lit2 tk2) else none) → R (.ok (.ret .none)) ⟨h', g, d, tk, os⟩) :
    codeAny (model P w) A (.call (.ref fI) ⟨us, kw⟩) R ⟨hp, g, d, t, os⟩ := by
  have X : K.In hp := md.kin.keeps bk
  obtain ⟨oc, od, nm, kV, doc, pm, an, ct, osl, hf⟩ := c.fd
  have heL : e < hp.objs.size := Heap.lt_size he
  obtain ⟨pl, htl⟩ := ht hp.objs.size
  have hLe : hp.objs.size ≠ e := Nat.ne_of_gt heL
  have hbe : ∀ b o, base.get? b = some o → b ≠ e := fun b o z q => by rw [q, ebs] at z; cases z
  refine ks_codeAny_call_defAt (s := ⟨hp, g, d, t, os⟩) hroom (X _ _ hf) rfl (md.nolimit.keeps bk) (PySem.W.codeRec_of X c.cd) rfl (BindsTo.of_eq (hbind nm kV doc pm an ct)) hcell (fun x hx => by simp at hx; rcases hx with rfl | rfl; exact hka; exact hkp) (fun h0 hns k0 => ?_) hco hgen hk
  have hns : h0.Ns hp.objs.size (fun x => List.lookup x [(pn, u), (("self" : Str), Value.ref e)]) := hns
  have k0 : ∀ b o, hp.get? b = some o → h0.get? b = some o := k0
  have sv : List.lookup ("self" : Str) [(pn, u), (("self" : Str), Value.ref e)] = some (Value.ref e) := (by show List.lookup ("self" : Str) [(pn, u), (("self" : Str), Value.ref e)] = _; rw [List.lookup_cons, show ((("self" : Str) == pn) = false) from by simpa using Ne.symm hpn]; rfl)
  show _root_.PySem.wpAt _ _ (.func _ (PySem.W.ksEnv qual scope hp.objs.size fI (.ref cda) cc)) (execs _ (PySem.W.ksEnv qual scope hp.objs.size fI (.ref cda) cc)) _ _ _
  refine ks_wpAt_execs_cons (ks_wpAt_Expr_any (esup c md (fun b o z => k0 _ _ (bk b o z)) hns (k0 _ _ he) hpa (by rw [har]; exact sv) hks hkc (by rw [har]; exact hka) hk (fun v h1 t1 tka kk1 e1 => ?_) htl) (hi := by unfold interactive; rw [show (PySem.W.ksEnv qual scope hp.objs.size fI (Value.ref cda) cc).scope.kind = .function from hk]; rfl))
  have kh1 : ∀ b o, b ≠ e → hp.get? b = some o → h1.get? b = some o := fun b o hb z => kk1 b o hb (k0 b o z)
  have X1 : K.In h1 := md.kin.keeps fun b o z => kh1 b o (hbe b o z) (bk b o z)
  have n1 := ns_keep hns fun o z => kk1 _ o hLe z
  refine ks_wpAt_execs_cons (ks_wpAt_Assign_Attr (_root_.PySem.wpAt_of_wpAny (wpAny_Constant_str (wpAny_Name (wpAny_loadName_local hk hka n1 sv ?_)))))
  refine eset_new c.bx.sf X1 e1 c.sa c.ov tk1 c.hd fun h2 tkb dx k2 dl dne e2 d2 => ?_
  have kh2 : ∀ b o, b ≠ e → hp.get? b = some o → h2.get? b = some o := fun b o hb z => k2 b o hb (kh1 b o hb z)
  have X2 : K.In h2 := md.kin.keeps fun b o z => kh2 b o (hbe b o z) (bk b o z)
  have n2 := ns_keep n1 fun o z => k2 _ o hLe z
  have hdx : hp.objs.size < dx := Nat.lt_of_lt_of_le n1.lt dl
  refine ks_wpAt_execs_cons (ks_wpAt_Assign_Attr (_root_.PySem.wpAt_of_wpAny (wpAny_Name (wpAny_loadName_local hk hkp n2 (show List.lookup pn [(pn, u), (("self" : Str), Value.ref e)] = some u by simp [List.lookup]) (wpAny_Name (wpAny_loadName_local hk hka n2 sv ?_))) hdb)))
  refine eset_old c.bx.sf X2 e2 d2 (Within.cons "code" _ Within.nil) (by simp) c.sa c.ov tk2 c.hd fun h3 tkc k3 d3 => ?_
  refine _root_.PySem.wpAt_of_wpAny ?_
  rw [execs_nil]
  refine wpAny_pure ?_
  refine hq h3 t1 dx tkc _ (fun b o hb z => k3 b o (fun y => ?_) (kh2 b o hb z)) (k3 _ _ dne.symm e2) (Nat.le_of_lt hdx) d3
  have := Heap.lt_size z
  rw [y] at this
  exact absurd (Nat.lt_trans this hdx) (Nat.lt_irrefl _)
end
end L2.Dl

namespace L2.Dl
open PySem PySem.Spec PyProof.Rows
/-! ### errors as values -/
theorem lay_exn {X : Cx} {pins : List (Addr × Obj)} {σ : L2.St} {H : Hp} {s : Shared} {F : List Addr} {M : MM} {Q : QD} {h' : Heap} {tk : Nat} {e dx t1 : Addr} {Cn : Str} {fsV : List (Str × V)} {fsD : List (Str × D)} {mA : Str → Option Value}
    (I : Inv X pins σ H s) (mm : RMM X.K F H M) (k : ∀ b o, s.heap.get? b = some o → h'.get? b = some o) (he : h'.get? e = some (eO (He.ga X.K Cn) t1 (some dx))) (hn : h'.Ns1 dx mA) (le : s.heap.objs.size ≤ e) (ld : s.heap.objs.size ≤ dx)
    (rel : ∀ f, RelO (fsV.lookup f) (mA f)) (rp : RepF X.K (ak F M) H Str fsV fsD) (q : Q (.exn Cn fsD) M) : EPD X F pins σ H M Q (.ref e) { s with heap := h', toks := tk } := by
  have hd : H dx = none := I.hok.fresh ld
  have hee : H e = none := I.hok.fresh le
  have hne : dx ≠ e := fun z => by
    obtain ⟨o, es, ep, ho, r⟩ := hn
    rw [z, he] at ho
    cases ho
    cases r.1
  have hee1 : upd H dx (.xd fsV) e = none := by rw [upd_ne hne.symm]; exact hee
  have lt : ∀ {b : Addr} {o : Obj}, s.heap.get? b = some o → b ≠ e ∧ b ≠ dx := fun {b o} z => ⟨Nat.ne_of_lt (Nat.lt_of_lt_of_le (Heap.lt_size z) le), Nat.ne_of_lt (Nat.lt_of_lt_of_le (Heap.lt_size z) ld)⟩
  have U : Un X.fs [] H (upd (upd H dx (.xd fsV)) e (.frz (eO (He.ga X.K Cn) t1 (some dx)) (.own e))) s.heap h' := {
    keep := fun b o z _ _ _ => k b o z
    slot := fun b o z _ _ _ => ⟨o.slots, k b o z⟩
    free := fun b o z n _ => by rw [upd_ne (lt z).1, upd_ne (lt z).2]; exact n
    there := fun b o z _ => ⟨o, k b o z⟩
    tups := fun b xs z => by rw [upd_ne (ne_of_none z hee), upd_ne (ne_of_none z hd)]; exact z
    frzs := fun b o u z => by rw [upd_ne (ne_of_none z hee), upd_ne (ne_of_none z hd)]; exact z
    tbls := fun b ps z => ⟨#[], by rw [upd_ne (ne_of_none z hee), upd_ne (ne_of_none z hd), z]; simp⟩ }
  have ok : HOk X.prog X.w (upd (upd H dx (.xd fsV)) e (.frz (eO (He.ga X.K Cn) t1 (some dx)) (.own e))) h' := fun b o z => by
    by_cases hb : b = e
    · subst hb
      rw [upd_same] at z
      cases z
      exact ⟨he, ⟨_, he⟩⟩
    · rw [upd_ne hb] at z
      by_cases hb2 : b = dx
      · subst hb2
        rw [upd_same] at z
        cases z
        exact ⟨mA, hn, rel⟩
      · rw [upd_ne hb2] at z
        exact (I.hok b o z).stay (fun c v _ y => k c v y) (fun c y => by rw [upd_ne (ne_of_none y hee), upd_ne (ne_of_none y hd)]; exact y) fun c xs y => by rw [upd_ne (ne_of_none y hee), upd_ne (ne_of_none y hd)]; exact y
  have J := I.un (t' := tk) U ok
  have st1 : Stp H (keys M) (upd H dx (.xd fsV)) (keys M) := stp_new hd
  have st : Stp H (keys M) (upd (upd H dx (.xd fsV)) e (.frz (eO (He.ga X.K Cn) t1 (some dx)) (.own e))) (keys M) := st1.trans (stp_new hee1)
  have m1 := mm.new (o := .xd fsV) hd
  have m2 := m1.new (o := .frz (eO (He.ga X.K Cn) t1 (some dx)) (.own e)) hee1
  exact ⟨.ref e, _, .exn Cn fsD, M, J, rfl, st, m2, .exn (m1.notin hee1) upd_same ⟨rfl, rfl⟩ ⟨_, rfl⟩ (mm.notin hd) (by rw [upd_ne hne, upd_same]) (rp.step st.fix), q⟩
def spErr1 (Cn lit pn : Str) : SpS := fun xs _ M _ Q => match xs with
  | [v] => Q (.exn Cn [("code", .str lit), (pn, v)]) M
  | _ => False
@[simp ↓] theorem spErr1_eq (Cn lit pn : Str) : ∀ xs ys M Z Q, spErr1 Cn lit pn xs ys M Z Q = (match xs with
  | [v] => Q (.exn Cn [("code", .str lit), (pn, v)]) M
  | _ => False) := fun _ _ _ _ _ => rfl
def spErrK (Cn lit pn : Str) : SpS := fun xs ys M _ Q => match xs, ys with
  | [], [v] => Q (.exn Cn [("code", .str lit), (pn, v)]) M
  | _, _ => False
@[simp ↓] theorem spErrK_eq (Cn lit pn : Str) : ∀ xs ys M Z Q, spErrK Cn lit pn xs ys M Z Q = (match xs, ys with
  | [], [v] => Q (.exn Cn [("code", .str lit), (pn, v)]) M
  | _, _ => False) := fun _ _ _ _ _ => rfl
def spErr0 (Cn lit : Str) : SpS := fun xs _ M _ Q => match xs with
  | [] => Q (.exn Cn [("code", .str lit)]) M
  | _ => False
@[simp ↓] theorem spErr0_eq (Cn lit : Str) : ∀ xs ys M Z Q, spErr0 Cn lit xs ys M Z Q = (match xs with
  | [] => Q (.exn Cn [("code", .str lit)]) M
  | _ => False) := fun _ _ _ _ _ => rfl
/-- the form of such a def -/
structure IsErr0 (qual : Str) (params : Arguments) (body : List Stmt) (scope : Scope) (lit : Str) : Prop where
  body_ : ∃ (p0 p1 p2 p3 p4 q1 a0 a1 a2 a3 : Pos) (j j2 : Nat), body = [.Expr (supE lit p0 p1 p2 p3 p4 j) q1, .Assign [.Attribute (.Name "self" a0) "code" a1] (.Constant (.str lit) j2 a2) a3] ∧ ∀ L fI cda cc, ∃ pl : Sem Bool, eval (supE lit p0 p1 p2 p3 p4 j) (PySem.W.ksEnv qual scope L fI (.ref cda) cc) = (do
      let ov ← attributeBase (.Call (.Name "super" p0) [] [] p1) "__init__" (PySem.W.ksEnv qual scope L fI (.ref cda) cc) (eval (.Call (.Name "super" p0) [] [] p1) (PySem.W.ksEnv qual scope L fI (.ref cda) cc))
      standAt p2.atName
      let (f, first) ← holding [ov] (getMethod ov "__init__" pl)
      callWith p4 f first (backTo p4 (starEach [.Constant (.str lit) j p3] (PySem.W.ksEnv qual scope L fI (.ref cda) cc))) [])
  b0 : ∀ nm kV doc pm an cda ct cc e, bindArgs (PySem.W.ksFn nm qual params body scope .none kV doc pm an (.ref cda) ct cc) ⟨[e], []⟩ = pure [(("self" : Str), e)]
  hpa : ∃ ar, (params.posonlyargs ++ params.args).head? = some ar ∧ ar.arg = ("self" : Str)
  hks : scope.names.lookup ("super" : Str) = some .globalImplicit
  hkc : scope.names.lookup ("__class__" : Str) = some .free
  hka : scope.names.lookup ("self" : Str) = some .local
  hcell : ∀ x ∈ scope.names, x.2 ≠ .cell
  hco : scope.isCoroutine = false
  hgen : scope.isGenerator = false
  hk : scope.kind = .function
  okl : PyData.strOk lit = true
/-- the form of such a def -/
structure IsErr1 (qual : Str) (params : Arguments) (body : List Stmt) (scope : Scope) (lit pn : Str) : Prop where
  body_ : ∃ (p0 p1 p2 p3 p4 q1 a0 a1 a2 a3 b0 b1 b2 b3 : Pos) (j j2 : Nat), body = [.Expr (supE lit p0 p1 p2 p3 p4 j) q1, .Assign [.Attribute (.Name "self" a0) "code" a1] (.Constant (.str lit) j2 a2) a3, .Assign [.Attribute (.Name "self" b0) pn b1] (.Name pn b2) b3] ∧ ∀ L fI cda cc, ∃ pl : Sem Bool, eval (supE lit p0 p1 p2 p3 p4 j) (PySem.W.ksEnv qual scope L fI (.ref cda) cc) = (do
      let ov ← attributeBase (.Call (.Name "super" p0) [] [] p1) "__init__" (PySem.W.ksEnv qual scope L fI (.ref cda) cc) (eval (.Call (.Name "super" p0) [] [] p1) (PySem.W.ksEnv qual scope L fI (.ref cda) cc))
      standAt p2.atName
      let (f, first) ← holding [ov] (getMethod ov "__init__" pl)
      callWith p4 f first (backTo p4 (starEach [.Constant (.str lit) j p3] (PySem.W.ksEnv qual scope L fI (.ref cda) cc))) [])
  b1 : ∀ nm kV doc pm an cda ct cc e u, bindArgs (PySem.W.ksFn nm qual params body scope .none kV doc pm an (.ref cda) ct cc) ⟨[e, u], []⟩ = pure [(("self" : Str), e), (pn, u)]
  bk : ∀ nm kV doc pm an cda ct cc e u, bindArgs (PySem.W.ksFn nm qual params body scope .none kV doc pm an (.ref cda) ct cc) ⟨[e], [(pn, u)]⟩ = pure [(("self" : Str), e), (pn, u)]
  hpn : pn ≠ ("self" : Str)
  hpc : pn ≠ ("code" : Str)
  hdb : (pn == ("__debug__" : Str)) = false
  hkp : scope.names.lookup pn = some .local
  hpa : ∃ ar, (params.posonlyargs ++ params.args).head? = some ar ∧ ar.arg = ("self" : Str)
  hks : scope.names.lookup ("super" : Str) = some .globalImplicit
  hkc : scope.names.lookup ("__class__" : Str) = some .free
  hka : scope.names.lookup ("self" : Str) = some .local
  hcell : ∀ x ∈ scope.names, x.2 ≠ .cell
  hco : scope.isCoroutine = false
  hgen : scope.isGenerator = false
  hk : scope.kind = .function
  okl : PyData.strOk lit = true
section
variable {X : Cx} {Cn lit pn qual : Str} {B newId i : String} {bmB : List Value} {fI cda cc : Addr} {params : Arguments} {body : List Stmt} {scope : Scope} {k : Nat}
theorem err_go {us ws : List Value} {ks : List Str} {pins : List (Addr × Obj)} {σ : L2.St} {H : Hp} {s : Shared} {Q : Value → Shared → Prop} {E : Value → Shared → Prop} (c : ErrC X.prog X.K (He.ga X.K Cn) B newId i bmB fI cda cc qual params body scope) (I : Inv X pins σ H s) (hus : us.length ≤ sizeLine)
    (h : ∀ h0 e, (∀ b o, s.heap.get? b = some o → h0.get? b = some o) → s.heap.objs.size ≤ e → X.base.get? e = none → h0.get? e = some (eO (He.ga X.K Cn) s.heap.objs.size none) → s.heap.objs.size ≤ h0.objs.size →
      codeAny (model X.prog X.w) (X.A.under (.builtin "type.__call__" ⟨.ref (He.ga X.K Cn) :: us, ks.zip ws⟩)) (.call (.ref fI) ⟨.ref e :: us, ks.zip ws⟩) (PySem.W.InitBack e (wants Q E)) { s with heap := h0 }) :
    wpAny (model X.prog X.w) X.A (call (.ref (He.ga X.K Cn)) us (ks.zip ws)) Q E s := by
  have KI := I.kIn
  obtain ⟨nm, N, qn, bs, bm, hdct, sn, sub, ab, col, dd, k0, k1, k2, k3, k5, hC, hT⟩ := PySem.W.excInit_of KI c.mkx
  have hni : s.heap.objs.size ≤ s.heap.objs.size + 1 := Nat.le_succ _
  have hbs := ClX.base_none I hni
  have tI : PySem.W.typeIn X.K (.ref fI) = some (.type "function") := by
    have := c.fn
    unfold PySem.W.isFn at this
    exact beq_iff_eq.mp this
  have hi := PySem.W.looks_findIn (M := model X.prog X.w) KI c.ini
  have hb := fun self => PySem.W.bind_fn (M := model X.prog X.w) KI self tI
  obtain ⟨hp, g, d, t, os⟩ := s
  refine wpAny_call (call_K c.bx.eb hT hC hi hb hus (codeAny_mono (h ((hp.push (PySem.W.kdv_tup us)).push (eO (He.ga X.K Cn) hp.objs.size none)) (hp.objs.size + 1) (fun b o z => Heap.get?_push_of_some _ (Heap.get?_push_of_some _ z)) hni hbs (by heap_get) ?_) fun r s' z => ?_))
  · show hp.objs.size ≤ ((hp.push _).push _).objs.size
    rw [Heap.size_push, Heap.size_push]
    omega
  · exact z
theorem relO_err {v : V} {u : Value} {tk : Tok} (rv : RelV v u) (hpc : pn ≠ ("code" : Str)) (f : Str) : RelO ([(("code" : Str), V.str lit), (pn, v)].lookup f) (if f = pn then some u else if f = "code" then some (.str lit tk) else none) := by
  by_cases h1 : f = pn
  · subst h1
    have h2 : (f == ("code" : Str)) = false := by simpa using hpc
    rw [if_pos rfl]
    simp only [List.lookup, h2, beq_self_eq_true]
    exact rv
  · rw [if_neg h1]
    have e1 : (f == pn) = false := by simpa using h1
    by_cases h2 : f = "code"
    · subst h2
      rw [if_pos rfl]
      simp only [List.lookup, beq_self_eq_true]
      exact ⟨tk, rfl⟩
    · rw [if_neg h2]
      have e2 : (f == ("code" : Str)) = false := by simpa using h2
      simp only [List.lookup, e1, e2]
      exact True.intro
theorem relO_err0 {tk : Tok} (f : Str) : RelO ([(("code" : Str), V.str lit)].lookup f) (if f = "code" then some (.str lit tk) else none) := by
  by_cases h2 : f = "code"
  · subst h2
    rw [if_pos rfl]
    simp only [List.lookup, beq_self_eq_true]
    exact ⟨tk, rfl⟩
  · rw [if_neg h2]
    have e2 : (f == ("code" : Str)) = false := by simpa using h2
    simp only [List.lookup, e2]
    exact True.intro
theorem cal_err1 (c : ErrC X.prog X.K (He.ga X.K Cn) B newId i bmB fI cda cc qual params body scope) (f : IsErr1 qual params body scope lit pn) (tk1 : PySem.W.takerIn X.K (He.ga X.K Cn) "code" = some none) (tk2 : PySem.W.takerIn X.K (He.ga X.K Cn) pn = some none) (hr : Room 1 X.A) : CalS X (He.ga X.K Cn) [] (spErr1 Cn lit pn) := by
  intro W tk pins σ H s F M Z us ws vs zs xs ys Q I mm kx r1 r2 hl a b h
  unfold spErr1 at h
  split at h
  · rename_i v
    obtain ⟨x1, rfl, rv⟩ : ∃ x1, vs = [x1] ∧ Rep X.K (ak F M) H x1 v := by
      cases a with
      | cons q r => cases r; exact ⟨_, rfl, q⟩
    obtain ⟨u1, rfl, ru⟩ : ∃ u1, us = [u1] ∧ RelV x1 u1 := by
      cases r1 with
      | cons q r => cases r; exact ⟨_, rfl, q⟩
    have hw : ws = [] := by
      cases r2 with
      | nil => rfl
      | cons _ _ => cases hl
    subst hw
    obtain ⟨p0, p1, p2, p3, p4, q1, a0, a1, a2, a3, b0, b1, b2, b3, j, j2, rfl, ht⟩ := f.body_
    obtain ⟨ar, har, har2⟩ := f.hpa
    refine err_go (ks := []) (ws := []) c I (by rw [sizeLine_eq]; simp) fun h0 e k0 le hb he hs0 => ?_
    have bk0 : ∀ b o, X.base.get? b = some o → h0.get? b = some o := fun b o z => k0 _ _ (I.bk b o z)
    have hne : ∀ b o, s.heap.get? b = some o → b ≠ e := fun b o z => Nat.ne_of_lt (Nat.lt_of_lt_of_le (Heap.lt_size z) le)
    obtain ⟨hp, g, d, t, os⟩ := s
    refine einit1 (t := t) c tk1 tk2 f.hpn f.hdb f.hkp I.ok.mod bk0 hb he ((hr.make (k := 0) _ _ _).depth) (fun nm kV doc pm an ct => f.b1 nm kV doc pm an cda ct cc _ _) har har2 f.hks f.hkc f.hka f.hcell f.hco f.hgen f.hk (fun L => ht L fI cda cc) fun h' t1 dx tkz tkc kk ee dl dn => ?_
    refine ⟨rfl, ?_⟩
    exact lay_exn (s := ⟨hp, g, d, t, os⟩) I mm (fun b o z => kk b o (hne b o z) (k0 b o z)) ee dn le (Nat.le_trans hs0 dl) (relO_err ru f.hpc) (.cons (.str _ f.okl) (.cons rv .nil)) h
  · exact h.elim
theorem cal_errK (c : ErrC X.prog X.K (He.ga X.K Cn) B newId i bmB fI cda cc qual params body scope) (f : IsErr1 qual params body scope lit pn) (tk1 : PySem.W.takerIn X.K (He.ga X.K Cn) "code" = some none) (tk2 : PySem.W.takerIn X.K (He.ga X.K Cn) pn = some none) (hr : Room 1 X.A) : CalS X (He.ga X.K Cn) [pn] (spErrK Cn lit pn) := by
  intro W tk pins σ H s F M Z us ws vs zs xs ys Q I mm kx r1 r2 hl a b h
  unfold spErrK at h
  split at h
  · rename_i v
    obtain ⟨x1, rfl, rv⟩ : ∃ x1, zs = [x1] ∧ Rep X.K (ak F M) H x1 v := by
      cases b with
      | cons q r => cases r; exact ⟨_, rfl, q⟩
    obtain ⟨u1, rfl, ru⟩ : ∃ u1, ws = [u1] ∧ RelV x1 u1 := by
      cases r2 with
      | cons q r => cases r; exact ⟨_, rfl, q⟩
    have hv : vs = [] := by
      cases a with
      | nil => rfl
    subst hv
    have hw : us = [] := by
      cases r1 with
      | nil => rfl
    subst hw
    obtain ⟨p0, p1, p2, p3, p4, q1, a0, a1, a2, a3, b0, b1, b2, b3, j, j2, rfl, ht⟩ := f.body_
    obtain ⟨ar, har, har2⟩ := f.hpa
    refine err_go (ks := [pn]) (ws := [u1]) c I (by rw [sizeLine_eq]; simp) fun h0 e k0 le hb he hs0 => ?_
    have bk0 : ∀ b o, X.base.get? b = some o → h0.get? b = some o := fun b o z => k0 _ _ (I.bk b o z)
    have hne : ∀ b o, s.heap.get? b = some o → b ≠ e := fun b o z => Nat.ne_of_lt (Nat.lt_of_lt_of_le (Heap.lt_size z) le)
    obtain ⟨hp, g, d, t, os⟩ := s
    refine einit1 (t := t) c tk1 tk2 f.hpn f.hdb f.hkp I.ok.mod bk0 hb he ((hr.make (k := 0) _ _ _).depth) (fun nm kV doc pm an ct => f.bk nm kV doc pm an cda ct cc _ _) har har2 f.hks f.hkc f.hka f.hcell f.hco f.hgen f.hk (fun L => ht L fI cda cc) fun h' t1 dx tkz tkc kk ee dl dn => ?_
    refine ⟨rfl, ?_⟩
    exact lay_exn (s := ⟨hp, g, d, t, os⟩) I mm (fun b o z => kk b o (hne b o z) (k0 b o z)) ee dn le (Nat.le_trans hs0 dl) (relO_err ru f.hpc) (.cons (.str _ f.okl) (.cons rv .nil)) h
  · exact h.elim
theorem cal_err0 (c : ErrC X.prog X.K (He.ga X.K Cn) B newId i bmB fI cda cc qual params body scope) (f : IsErr0 qual params body scope lit) (tk1 : PySem.W.takerIn X.K (He.ga X.K Cn) "code" = some none) (hr : Room 1 X.A) : CalS X (He.ga X.K Cn) [] (spErr0 Cn lit) := by
  intro W tk pins σ H s F M Z us ws vs zs xs ys Q I mm kx r1 r2 hl a b h
  unfold spErr0 at h
  split at h
  · have hv : vs = [] := by
      cases a with
      | nil => rfl
    subst hv
    have hu : us = [] := by
      cases r1 with
      | nil => rfl
    subst hu
    have hw : ws = [] := by
      cases r2 with
      | nil => rfl
      | cons _ _ => cases hl
    subst hw
    obtain ⟨p0, p1, p2, p3, p4, q1, a0, a1, a2, a3, j, j2, rfl, ht⟩ := f.body_
    obtain ⟨ar, har, har2⟩ := f.hpa
    refine err_go (ks := []) (ws := []) c I (by rw [sizeLine_eq]; simp) fun h0 e k0 le hb he hs0 => ?_
    have bk0 : ∀ b o, X.base.get? b = some o → h0.get? b = some o := fun b o z => k0 _ _ (I.bk b o z)
    have hne : ∀ b o, s.heap.get? b = some o → b ≠ e := fun b o z => Nat.ne_of_lt (Nat.lt_of_lt_of_le (Heap.lt_size z) le)
    obtain ⟨hp, g, d, t, os⟩ := s
    refine einit0 (t := t) c tk1 I.ok.mod bk0 hb he ((hr.make (k := 0) _ _ _).depth) (fun nm kV doc pm an ct => f.b0 nm kV doc pm an cda ct cc _) har har2 f.hks f.hkc f.hka f.hcell f.hco f.hgen f.hk (fun L => ht L fI cda cc) fun h' t1 dx tkz tkc kk ee dl dn => ?_
    refine ⟨rfl, ?_⟩
    exact lay_exn (s := ⟨hp, g, d, t, os⟩) I mm (fun b o z => kk b o (hne b o z) (k0 b o z)) ee dn le (Nat.le_trans hs0 dl) relO_err0 (.cons (.str _ f.okl) .nil) h
  · exact h.elim
end
end L2.Dl

namespace L2.Dl
open PySem PySem.Spec PyProof.Rows
/-! ### kinds -/
/-- a class: a built-in one, one of the text -/
inductive KD where
  | ty (n : String) | own (C : Str)
instance kdEq : DecidableEq KD := fun a b => match a, b with
  | .ty x, .ty y => if h : x = y then isTrue (by rw [h]) else isFalse (fun e => h (KD.ty.inj e))
  | .own x, .own y => if h : x = y then isTrue (by rw [h]) else isFalse (fun e => h (KD.own.inj e))
  | .ty _, .own _ => isFalse (fun e => nomatch e)
  | .own _, .ty _ => isFalse (fun e => nomatch e)
def kdV (K : PySem.W.Frag) : KD → Value
  | .ty n => .type n
  | .own C => .ref (He.ga K C)
/-- what is asked of a class whose instances isinstance looks at -/
structure InsF (K : PySem.W.Frag) (C : Addr) : Prop where
  cl : Cls K C
  ha : PySem.W.findIn K (.ref C) "__class__" = some (some (.builtin "object.__class__"))
  hn : PySem.W.specialIn K (.builtin "object.__class__") "__get__" = some (some (.builtin "getset_descriptor.__get__"))
  ht : PySem.W.takesIn K (.builtin "object.__class__") = some true
  hm : PySem.W.mroIn K C (.type "object") = some true
structure ExcF (K : PySem.W.Frag) (C : Addr) : Prop where
  is_ : (PySem.W.clsIn K C).isSome = true
  ga : PySem.W.findIn K (.ref C) "__getattribute__" = some (some (.builtin "BaseException.__getattribute__"))
  gg : PySem.W.findIn K (.ref C) "__getattr__" = some none
  exC : PySem.W.subIn K (.ref C) (.type "BaseException") = some true
  hd : PySem.W.hasDictIn K C = true
  ha : PySem.W.findIn K (.ref C) "__class__" = some (some (.builtin "object.__class__"))
  hn : PySem.W.specialIn K (.builtin "object.__class__") "__get__" = some (some (.builtin "getset_descriptor.__get__"))
  ht : PySem.W.takesIn K (.builtin "object.__class__") = some true
  hm : PySem.W.mroIn K C (.type "object") = some true
  ty : PySem.W.typeIn K (.ref C) = some (.type "type")
  kp : PySem.W.keepIn K (.ref C) = true
def optB (a : Option Bool) : Bool := match a with | some b => b | none => false
theorem optB_ok {a : Option Bool} (h : optB a = true) : a = some true := by
  cases a with
  | none => cases h
  | some b => cases b with
    | true => rfl
    | false => cases h
def classB (K : PySem.W.Frag) (C : Addr) : Bool := He.eqO (PySem.W.findIn K (.ref C) "__class__") (some (some (.builtin "object.__class__"))) && (He.eqO (PySem.W.specialIn K (.builtin "object.__class__") "__get__") (some (some (.builtin "getset_descriptor.__get__"))) && (optB (PySem.W.takesIn K (.builtin "object.__class__")) && optB (PySem.W.mroIn K C (.type "object"))))
def insB (C : Str) (K : PySem.W.Frag) : Bool := (He.Fa.cls C).ok K && classB K (He.ga K C)
def excB (C : Str) (K : PySem.W.Frag) : Bool := (PySem.W.clsIn K (He.ga K C)).isSome && (He.eqO (PySem.W.findIn K (.ref (He.ga K C)) "__getattribute__") (some (some (.builtin "BaseException.__getattribute__"))) && (He.eqO (PySem.W.findIn K (.ref (He.ga K C)) "__getattr__") (some none) && (optB (PySem.W.subIn K (.ref (He.ga K C)) (.type "BaseException")) && (PySem.W.hasDictIn K (He.ga K C) && (classB K (He.ga K C) &&
  (decide (PySem.W.typeIn K (.ref (He.ga K C)) = some (.type "type")) && PySem.W.keepIn K (.ref (He.ga K C))))))))
theorem classB_ok {K : PySem.W.Frag} {C : Addr} (h : classB K C = true) : PySem.W.findIn K (.ref C) "__class__" = some (some (.builtin "object.__class__")) ∧ PySem.W.specialIn K (.builtin "object.__class__") "__get__" = some (some (.builtin "getset_descriptor.__get__")) ∧ PySem.W.takesIn K (.builtin "object.__class__") = some true ∧ PySem.W.mroIn K C (.type "object") = some true := by
  obtain ⟨h1, h⟩ := He.ba h
  obtain ⟨h2, h⟩ := He.ba h
  obtain ⟨h3, h4⟩ := He.ba h
  exact ⟨He.eqO_ok h1, He.eqO_ok h2, optB_ok h3, optB_ok h4⟩
theorem insB_ok {K : PySem.W.Frag} {C : Str} (h : insB C K = true) : InsF K (He.ga K C) := by
  obtain ⟨h1, h⟩ := He.ba h
  obtain ⟨a, b, c, d⟩ := classB_ok h
  exact ⟨He.cls_ok h1, a, b, c, d⟩
theorem excB_ok {K : PySem.W.Frag} {C : Str} (h : excB C K = true) : ExcF K (He.ga K C) := by
  obtain ⟨h1, h⟩ := He.ba h
  obtain ⟨h2, h⟩ := He.ba h
  obtain ⟨h3, h⟩ := He.ba h
  obtain ⟨h4, h⟩ := He.ba h
  obtain ⟨h5, h⟩ := He.ba h
  obtain ⟨h6, h⟩ := He.ba h
  obtain ⟨h7, h8⟩ := He.ba h
  obtain ⟨a, b, c, d⟩ := classB_ok h6
  exact ⟨h1, He.eqO_ok h2, He.eqO_ok h3, optB_ok h4, h5, a, b, c, d, of_decide_eq_true h7, h8⟩
/-! ### isinstance -/
section
variable {X : Cx}
/-- of an error -/
def rIsX (K : PySem.W.Frag) : List V → Hp → VK → Prop := fun xs H Q => ∃ (a d : Addr) (oe : Obj) (C : Addr) (fs : List (Str × V)) (c : V) (cv : Value) (b : Bool), xs = [.ref a, c] ∧ ClsV c cv ∧ H a = some (.frz oe (.own a)) ∧ Zc (.ref C) (some d) oe ∧ (∃ vs, oe.data = .fields vs) ∧ H d = some (.xd fs) ∧ ExcF K C ∧ PySem.W.kitOne K (.ref C) cv = some b ∧ Q (.bl b) H
theorem exn_inst {pins : List (Addr × Obj)} {σ : L2.St} {H : Hp} {s : Shared} {a d C : Addr} {oe : Obj} {fs : List (Str × V)} (I : Inv X pins σ H s) (ha : H a = some (.frz oe (.own a))) (hz : Zc (.ref C) (some d) oe) (hf : ∃ vs, oe.data = .fields vs) (hd : H d = some (.xd fs)) :
    ∃ (od : Obj) (mA : Str → Option Value), PySem.W.InstAt s.heap a oe C (some od) ∧ (∀ n, PySem.W.lookIn n od = some (mA n)) ∧ ∀ f, RelO (fs.lookup f) (mA f) := by
  obtain ⟨e1, _⟩ := I.hok a _ ha
  obtain ⟨vs, hv⟩ := hf
  obtain ⟨mA, hns, hr⟩ := (show ObjOk X.prog X.w H s.heap d (.xd fs) from I.hok d _ hd)
  obtain ⟨od, ho, hl⟩ := lookIn_ns hns
  exact ⟨od, mA, ⟨e1, hz.1, by unfold PySem.W.notCls; rw [hv] <;> rfl, by rw [hz.2]; exact ho⟩, hl, hr⟩
theorem call_isX : CallR X (.builtin "isinstance") (rIsX X.K) := by
  intro pins s σ H xs us Q I r h
  obtain ⟨a, d, oe, C, fs, c, cv, b, rfl, k, ha, hz, hf, hd, ef, e, q⟩ := h
  obtain ⟨u1, u2, rfl, r1, r2⟩ := vals2 r
  have e2 := k.eq r2
  subst e2
  cases (show u1 = Value.ref a from r1)
  obtain ⟨od, mA, J, _⟩ := exn_inst I ha hz hf hd
  exact PySem.W.kia_one (PySem.W.kitx_exc ef.is_ ef.ga ef.gg ef.exC ef.ha ef.hn ef.ht ef.hm) I.kIn J e (fun z => nomatch z) fun tk => ⟨.bl b, H, I.tok tk, rfl, q⟩
/-- the kind of a value -/
def kdX (os es : List Str) : D → MM → Option KD
  | .obj C _, _ => if C ∈ os then some (.own C) else none
  | .exn C _, _ => if C ∈ es then some (.own C) else none
  | .ref a, M => (match M.lookup a with | some (.obj C _) => if C ∈ os then some (.own C) else none | some (.lst _) => some (.ty "list") | _ => none)
  | .lst _, _ => some (.ty "list")
  | .tup _, _ => some (.ty "tuple")
  | .non, _ => some (.ty "NoneType")
  | .bl _, _ => some (.ty "bool")
  | .int _, _ => some (.ty "int")
  | .str _, _ => some (.ty "str")
  | _, _ => none
@[simp] theorem kdX_obj (os es : List Str) (C : Str) (fs : List (Str × D)) (M : MM) : kdX os es (.obj C fs) M = if C ∈ os then some (.own C) else none := rfl
@[simp] theorem kdX_exn (os es : List Str) (C : Str) (fs : List (Str × D)) (M : MM) : kdX os es (.exn C fs) M = if C ∈ es then some (.own C) else none := rfl
@[simp] theorem kdX_lst (os es : List Str) (xs : List D) (M : MM) : kdX os es (.lst xs) M = some (.ty "list") := rfl
@[simp] theorem kdX_tup (os es : List Str) (xs : List D) (M : MM) : kdX os es (.tup xs) M = some (.ty "tuple") := rfl
@[simp] theorem kdX_non (os es : List Str) (M : MM) : kdX os es .non M = some (.ty "NoneType") := rfl
@[simp] theorem kdX_bl (os es : List Str) (b : Bool) (M : MM) : kdX os es (.bl b) M = some (.ty "bool") := rfl
@[simp] theorem kdX_int (os es : List Str) (b : Int) (M : MM) : kdX os es (.int b) M = some (.ty "int") := rfl
@[simp] theorem kdX_str (os es : List Str) (b : Str) (M : MM) : kdX os es (.str b) M = some (.ty "str") := rfl
@[simp] theorem kdX_ref (os es : List Str) (a : Addr) (M : MM) : kdX os es (.ref a) M = (match M.lookup a with | some (.obj C _) => if C ∈ os then some (.own C) else none | some (.lst _) => some (.ty "list") | _ => none) := rfl
@[simp] def kdC : D → Option KD
  | .ty n => some (.ty n)
  | .glo C => some (.own C)
  | _ => none
structure IsOk (K : PySem.W.Frag) (os es : List Str) (tab : KD → KD → Option Bool) : Prop where
  kit : ∀ a c b, tab a c = some b → PySem.W.kitOne K (kdV K a) (kdV K c) = some b
  os_ : ∀ C ∈ os, InsF K (He.ga K C)
  es_ : ∀ C ∈ es, ExcF K (He.ga K C)
def dIsiX (os es : List Str) (tab : KD → KD → Option Bool) : RCD := fun xs M Q => match xs with
  | [x, c] => optK (kdX os es x M) fun a => optK (kdC c) fun k => optK (tab a k) fun b => Q (.bl b) M
  | _ => False
@[simp ↓] theorem dIsiX_eq (os es : List Str) (tab : KD → KD → Option Bool) : ∀ xs M Q, dIsiX os es tab xs M Q = (match xs with
  | [x, c] => optK (kdX os es x M) fun a => optK (kdC c) fun k => optK (tab a k) fun b => Q (.bl b) M
  | _ => False) := fun _ _ _ => rfl
theorem optK_ex {α : Type} {o : Option α} {k : α → Prop} (h : optK o k) : ∃ a, o = some a ∧ k a := by
  cases o with
  | none => exact h.elim
  | some a => exact ⟨a, rfl, h⟩
theorem kdC_at {K : PySem.W.Frag} {B : List Addr} {H : Hp} {v : V} {d : D} {c : KD} (r : Rep K B H v d) (h : kdC d = some c) : ClsV v (kdV K c) := by
  cases r with
  | ty n => cases h; exact .ty n
  | glo x => cases h; exact .own _
  | _ => cases h
theorem k_isiX {os es : List Str} {tab : KD → KD → Option Bool} (ok : IsOk X.K os es tab) : CallD X (.builtin "isinstance") (dIsiX os es tab) := by
  refine ⟨_, CallR.or call_isi call_isX, fun F H M vs xs Q QV mm rp hr k => ?_⟩
  match xs, hr with
  | [x, c], hr =>
    obtain ⟨v, w, rfl, r1, r2⟩ := repA2 rp
    obtain ⟨a, ha, hr⟩ := optK_ex (show optK (kdX os es x M) _ from hr)
    obtain ⟨k', hk, hr⟩ := optK_ex hr
    obtain ⟨b, hb, hr⟩ := optK_ex hr
    have hc := kdC_at r2 hk
    have hkit := ok.kit _ _ _ hb
    have fin := k.at mm (.bl b) hr
    have base : ∀ n : String, a = .ty n → TyX X.K H v (.type n) → _ := fun n e ty => by
      subst e
      exact (Or.inl ⟨v, w, .type n, kdV X.K k', b, rfl, hc, ty, hkit, fin⟩ : (rIsi X.K [v, w] H QV ∨ rIsX X.K [v, w] H QV))
    cases r1 with
    | non => cases ha; exact base _ rfl (.base .non)
    | bl y => cases ha; exact base _ rfl (.base (.bl y))
    | int y => cases ha; exact base _ rfl (.base (.int y))
    | str y => cases ha; exact base _ rfl (.base (.str y))
    | lst hx r => cases ha; exact base _ rfl (.base (.lst hx.2))
    | tup hx r =>
      cases ha
      refine base _ rfl ?_
      rcases hx with ⟨_, hx⟩ | ⟨o, its, m, hk, hc, _⟩
      · exact .base (.tup hx)
      · exact .kTuple hk hc
    | @obj p dx C vs fs h1 h2 r =>
      have ha : (if C ∈ os then some (KD.own C) else none) = some a := ha
      split at ha
      · rename_i hC
        cases ha
        have f := ok.os_ C hC
        exact .inl ⟨.ref p, w, .ref (He.ga X.K C), kdV X.K k', b, rfl, hc, .base (.ins h2 f.cl f.ha f.hn f.ht f.hm), hkit, fin⟩
      · cases ha
    | @exn p d C oe vs fs h1 h2 z f d1 d2 r =>
      have ha : (if C ∈ es then some (KD.own C) else none) = some a := ha
      split at ha
      · rename_i hC
        cases ha
        exact .inr ⟨p, d, oe, He.ga X.K C, vs, w, kdV X.K k', b, rfl, hc, h2, z, f, d2, ok.es_ C hC, hkit, fin⟩
      · cases ha
    | ref p =>
      have ha : (match M.lookup p with | some (.obj C _) => if C ∈ os then some (KD.own C) else none | some (.lst _) => some (KD.ty "list") | _ => none) = some a := ha
      split at ha
      · rename_i C fs e1
        obtain ⟨dx, ws, h1, h2⟩ := mm.get e1
        split at ha
        · rename_i hC
          cases ha
          have f := ok.os_ C hC
          exact .inl ⟨.ref p, w, .ref (He.ga X.K C), kdV X.K k', b, rfl, hc, .base (.ins h1 f.cl f.ha f.hn f.ht f.hm), hkit, fin⟩
        · cases ha
      · rename_i xs' e1
        cases ha
        obtain ⟨ws, h1, h2⟩ := mm.get e1
        exact base _ rfl (.base (.lst h1))
      · cases ha
    | _ => cases ha
/-! ### a field of an error -/
def XfOk (K : PySem.W.Frag) (Cs : List Str) (f : Str) : Prop := ∀ C ∈ Cs, ExcF K (He.ga K C) ∧ PySem.W.findIn K (.ref (He.ga K C)) f = some none
variable {e : Expr} {te : TD} {f : Str} {Cs : List Str} {pos : Pos}
def dXf (Cs : List Str) (f : Str) (te : TD) : TD := fun ds M Z Q => te ds M Z fun d M1 => match d with
  | .exn C fs => C ∈ Cs ∧ optK (fs.lookup f) fun v => Q v M1
  | _ => False
@[simp ↓] theorem dXf_eq (Cs : List Str) (f : Str) (te : TD) : ∀ ds M Z Q, dXf Cs f te ds M Z Q = (te ds M Z fun d M1 => match d with
  | .exn C fs => C ∈ Cs ∧ optK (fs.lookup f) fun v => Q v M1
  | _ => False) := fun _ _ _ _ => rfl
theorem d_xf (hC : XfOk X.K Cs f) (he : PD X e te) (hb : attributeBase e f X.env (eval e X.env) = eval e X.env := by rfl) : PD X (.Attribute e f pos) (dXf Cs f te) := by
  refine ⟨fun W tks F pins s σ H ds M Z Q I hs ht => ?_⟩
  refine attr_of hb (thn (he.run W tks F pins s σ H ds M Z _ I hs ht) fun u s1 ⟨x, H1, d, M1, I1, rx, st, mm, rp, q⟩ => ?_)
  cases rp with
  | @exn p d C oe vs fs h1 h2 z zf d1 d2 r =>
    have q : C ∈ Cs ∧ optK (fs.lookup f) fun v => Q v M1 := q
    obtain ⟨hm, q⟩ := q
    obtain ⟨w, hw, q⟩ := optK_ex q
    obtain rfl : u = Value.ref p := rx
    obtain ⟨ef, hno⟩ := hC C hm
    obtain ⟨od, mA, J, hl, hr⟩ := exn_inst I1 h2 z zf d2
    obtain ⟨v, hv, rv⟩ := r.look hw
    obtain ⟨u, hu, ru⟩ := RelO.some_of (v := v) (o := mA f) (by rw [← hv]; exact hr f)
    exact HandSPX.exc_get I1.kIn J ef.ga ef.gg ef.exC (PySem.W.findObj_own ef.hd hno rfl (by rw [hl, hu])) (handed_of ru) ⟨v, H1, w, M1, I1.tok _, ru, st, mm, rv, q⟩
  | _ => exact (show False from q).elim
end
/-! ### the class of an error, by a check -/
def errB (C : Str) (B newId i : String) (bmB : List Value) (file : Str) (fs : List Str) (K : PySem.W.Frag) : Bool :=
  PySem.W.excInitIn K (He.ga K C) bmB newId && (PySem.W.excOver K (He.ga K C) bmB && ((He.Fa.meth C "__init__").ok K && ((match K.lookup (He.fAd K (C, some ("__init__" : Str))) with
    | some ⟨_, _, .func fd, _⟩ => (match fd.defaults, fd.code, fd.closure with
      | .none, .ref cda, [(_, cc)] => PySem.W.codeIn K (.ref cda) fd.qualname && ((match K.lookup cda with
          | some ⟨_, _, .fields vs, _⟩ => (match (vs[2]? : Option Value) with
            | some (.str f _) => f == file
            | _ => false)
          | _ => false) && (match K.lookup cc with
          | some ⟨_, _, .cell (some (.ref b)), _⟩ => decide (b = He.ga K C)
          | _ => false))
      | _, _, _ => false)
    | _ => false) && (optB (PySem.W.mroIn K (He.ga K C) (.ref (He.ga K C))) && (He.eqO (PySem.W.ks_superIn K (He.ga K C) (He.ga K C) "__init__") (some (some (.builtin i))) && (optB (PySem.W.subIn K (.ref (He.ga K C)) (.type B)) &&
    (He.eqO (PySem.W.findIn K (.ref (He.ga K C)) "__setattr__") (some (some (.builtin "object.__setattr__"))) && (excB C K && fs.all fun f => He.eqO (PySem.W.findIn K (.ref (He.ga K C)) f) (some none)))))))))
abbrev FnY : Type := Option (Str × Str × Arguments × FuncBody × Scope × Addr × List Str × Addr)
def fnY (K : PySem.W.Frag) (p : Str × Option Str) : FnY := match K.lookup (He.fAd K p) with
  | some ⟨_, _, .func fd, _⟩ => some (fd.name, fd.qualname, fd.params, fd.body, fd.scope, fd.globals, fd.closure.map (·.1), fd.builtins)
  | _ => none
def valY (d : He.DefD) : FnY := some (d.name, d.qual, d.params, .stmts d.body, d.scope, mainGlobals, ["__class__"], builtinsNs)
/-- for all of them -/
def supB (K : PySem.W.Frag) : Bool := He.eqO (PySem.W.nsIn K mainGlobals "super") (some none) && He.eqO (PySem.W.nsIn K cStatics "thirdparty.any") (some none)
/-- where the parts of such a class stand -/
def codeA (K : PySem.W.Frag) (f : Addr) : Addr := match K.lookup f with
  | some ⟨_, _, .func fd, _⟩ => (match fd.code with | .ref a => a | _ => 0)
  | _ => 0
def cellA (K : PySem.W.Frag) (f : Addr) : Addr := match K.lookup f with
  | some ⟨_, _, .func fd, _⟩ => (match fd.closure with | [(_, c)] => c | _ => 0)
  | _ => 0
structure PFile (P : Program) (file : Str) : Prop where
  file_ : ((P.main.file : Str) == file) = true
  sup : (P.main.scope.names.lookup ("super" : Str)).isSome = false
theorem errB_ok {P : Program} {K : PySem.W.Frag} {C : Str} {B newId i : String} {bmB : List Value} {file : Str} {fs : List Str} {d : He.DefD} (bx : BaseX B newId i bmB) (hP : PFile P file) (su : supB K = true) (hd : fnY K d.at_ = valY d) (ha : d.at_ = (C, some ("__init__" : Str)))
    (h : errB C B newId i bmB file fs K = true) : ErrC P K (He.ga K C) B newId i bmB (He.fAd K (C, some ("__init__" : Str))) (codeA K (He.fAd K (C, some ("__init__" : Str)))) (cellA K (He.fAd K (C, some ("__init__" : Str)))) d.qual d.params d.body d.scope ∧
      ExcF K (He.ga K C) ∧ ∀ f ∈ fs, PySem.W.findIn K (.ref (He.ga K C)) f = some none := by
  obtain ⟨h1, h⟩ := He.ba h
  obtain ⟨h2, h⟩ := He.ba h
  obtain ⟨h3, h⟩ := He.ba h
  obtain ⟨h4, h⟩ := He.ba h
  obtain ⟨h5, h⟩ := He.ba h
  obtain ⟨h6, h⟩ := He.ba h
  obtain ⟨h7, h⟩ := He.ba h
  obtain ⟨h8, h⟩ := He.ba h
  obtain ⟨h9, h10⟩ := He.ba h
  obtain ⟨su1, su2⟩ := He.ba su
  have me := He.meth_ok h3
  have ef := excB_ok h9
  rw [ha] at hd
  unfold fnY at hd
  unfold codeA cellA
  cases q : K.lookup (He.fAd K (C, some ("__init__" : Str))) with
  | none => rw [q] at hd; cases hd
  | some o =>
    obtain ⟨oc, od, dt, osl⟩ := o
    rw [q] at hd h4
    cases dt with
    | func fd =>
      obtain ⟨n1, n2, n3, n4, n5, n6, n7, n8, n9, n10, n11, n12, n13, n14, n15⟩ := fd
      have e2 : (some (n1, n2, n3, n4, n5, n6, n7.map (·.1), n15) : FnY) = (some (d.name, d.qual, d.params, .stmts d.body, d.scope, mainGlobals, ["__class__"], builtinsNs) : FnY) := hd
      simp only [Option.some.injEq, Prod.mk.injEq] at e2
      obtain ⟨z1, z2, z3, z4, z5, z6, z7, z8⟩ := e2
      subst z1 z2 z3 z4 z5 z6 z8
      dsimp only at h4
      split at h4
      · rename_i cda nn cc
        simp only [List.map_cons, List.map_nil, List.cons.injEq, and_true] at z7
        subst z7
        obtain ⟨k1, h4⟩ := He.ba h4
        obtain ⟨k2, k3⟩ := He.ba h4
        refine ⟨{ bx := bx, mkx := h1, ov := h2, ini := me.at_, fn := me.fn, fd := ⟨oc, od, d.name, n9, n10, n11, n12, n14, osl, q⟩, cd := k1, co := ?_, ce := ?_, mr := optB_ok h5, su := He.eqO_ok su1, tp := He.eqO_ok su2, si := He.eqO_ok h6, sb := optB_ok h7, sa := He.eqO_ok h8, hd := ef.hd, cl := ef.is_, ts := hP.sup }, ef, fun f hf => He.eqO_ok (List.all_eq_true.mp h10 f hf)⟩
        · cases qc : K.lookup cda with
          | none => rw [qc] at k2; cases k2
          | some oo =>
            obtain ⟨ca, cb, cdt, cs⟩ := oo
            rw [qc] at k2
            cases cdt with
            | fields vs =>
              dsimp only at k2
              split at k2
              · rename_i f tf ev
                have ef2 : f = file := eq_of_beq k2
                exact ⟨ca, cb, vs, cs, f, tf, rfl, ev, by rw [ef2]; exact hP.file_⟩
              · cases k2
            | _ => cases k2
        · cases qc : K.lookup cc with
          | none => rw [qc] at k3; cases k3
          | some oo =>
            obtain ⟨ca, cb, cdt, cs⟩ := oo
            rw [qc] at k3
            cases cdt with
            | cell v =>
              cases v with
              | none => cases k3
              | some v =>
                cases v with
                | ref b =>
                  have eb : b = He.ga K C := of_decide_eq_true k3
                  rw [eb]
                  exact ⟨ca, cb, cs, rfl⟩
                | _ => cases k3
            | _ => cases k3
      · cases h4
    | _ => cases h4
theorem taker_none {K : PySem.W.Frag} {C : Addr} {f : Str} (h : PySem.W.findIn K (.ref C) f = some none) : PySem.W.takerIn K C f = some none := by
  unfold PySem.W.takerIn
  rw [h]
  rfl
/-! ### the hook -/
def asY (g : Addr → Option Obj) : Nat → List Addr
  | 0 => [mainGlobals, cStatics]
  | n + 1 => He.growD g (asY g n)
/-- cStatics itself is looked at, what it names is not -/
def asZ (g : Addr → Option Obj) (n : Nat) : List Addr := cStatics :: He.asD g n
abbrev AlY : Type := He.AlD × Bool × List FnY
def obsY (fa : List He.Fa) (fn : List He.DefD) (fx : List (PySem.W.Frag → Bool)) (fe : List He.DefD) (K : PySem.W.Frag) : AlY := (He.obsD fa fn K, fx.all (fun f => f K), fe.map fun d => fnY K d.at_)
def vaY (fn fe : List He.DefD) : AlY := (He.valD fn, true, fe.map valY)
def SaysY (fa : List He.Fa) (fn : List He.DefD) (fx : List (PySem.W.Frag → Bool)) (fe : List He.DefD) (K : PySem.W.Frag) : Prop := obsY fa fn fx fe K = vaY fn fe
def obsYG (n : Nat) (fa : List He.Fa) (fn : List He.DefD) (fx : List (PySem.W.Frag → Bool)) (fe : List He.DefD) (g : Addr → Option Obj) : AlY := obsY fa fn fx fe (He.frG g (asZ g n))
def hookY (n : Nat) (fa : List He.Fa) (fn : List He.DefD) (fx : List (PySem.W.Frag → Bool)) (fe : List He.DefD) : PySem.W.Hook where
  α := AlY
  obs := fun s => obsYG n fa fn fx fe s.heap.get?
  val := fun _ => vaY fn fe
  says := fun _ h => ∃ K : PySem.W.Frag, K.In h ∧ SaysY fa fn fx fe K
  of := fun _ _ e => ⟨_, He.frG_in, e⟩
  keeps := fun _ _ _ ⟨K, hK, c⟩ k => ⟨K, PySem.W.Frag.In.keeps hK k, c⟩
theorem obsYG_eq {n : Nat} {fa : List He.Fa} {fn : List He.DefD} {fx : List (PySem.W.Frag → Bool)} {fe : List He.DefD} {g : Addr → Option Obj} {s : Shared} (h : ∀ a, g a = s.heap.get? a) : obsYG n fa fn fx fe g = (hookY n fa fn fx fe).obs s := by
  have e : g = s.heap.get? := funext h
  rw [e] <;> rfl
structure TopY (fa : List He.Fa) (fn : List He.DefD) (fx : List (PySem.W.Frag → Bool)) (fe : List He.DefD) (file : Str) (P : Program) (K : PySem.W.Frag) (mg : Str → Option Value) : Prop extends Tops fa fn K mg where
  all_ : fx.all (fun f => f K) = true
  fe_ : (fe.map fun d => fnY K d.at_) = fe.map valY
  pf : PFile P file
theorem TopY.fx_ {fa : List He.Fa} {fn : List He.DefD} {fx : List (PySem.W.Frag → Bool)} {fe : List He.DefD} {file : Str} {P : Program} {K : PySem.W.Frag} {mg : Str → Option Value} (T : TopY fa fn fx fe file P K mg) (i : Nat) {f : PySem.W.Frag → Bool} (h : fx[i]? = some f := by rfl) : f K = true := List.all_eq_true.mp T.all_ f (List.mem_of_getElem? h)
theorem TopY.fe_at {fa : List He.Fa} {fn : List He.DefD} {fx : List (PySem.W.Frag → Bool)} {fe : List He.DefD} {file : Str} {P : Program} {K : PySem.W.Frag} {mg : Str → Option Value} (T : TopY fa fn fx fe file P K mg) (i : Nat) {d : He.DefD} (h : fe[i]? = some d := by rfl) : fnY K d.at_ = valY d := by
  have e2 : (fe.map fun d => fnY K d.at_)[i]? = (fe.map valY)[i]? := by rw [T.fe_]
  rw [List.getElem?_map, List.getElem?_map, h] at e2
  exact Option.some.inj e2
theorem topY_of {fa : List He.Fa} {fn : List He.DefD} {fx : List (PySem.W.Frag → Bool)} {fe : List He.DefD} {file : Str} {P : Program} {K : PySem.W.Frag} {h : Heap} {mg : Str → Option Value} (hP : PFile P file) (KX : K.In h) (G : h.Ns mainGlobals mg) (c : SaysY fa fn fx fe K) : TopY fa fn fx fe file P K mg :=
  { tops_of KX G (congrArg (fun z : AlY => z.1) c : He.SaysD fa fn K) with all_ := congrArg (fun z : AlY => z.2.1) c, fe_ := congrArg (fun z : AlY => z.2.2) c, pf := hP }
end L2.Dl

namespace L2.Dl
open PySem PySem.Spec PyProof.Rows
/-! ### tables for isinstance -/
theorem bt_ValueError : bootBuiltins "ValueError" = some (.type "ValueError") := by decide +kernel
theorem bt_LookupError : bootBuiltins "LookupError" = some (.type "LookupError") := by decide +kernel
theorem bt_IndexError : bootBuiltins "IndexError" = some (.type "IndexError") := by decide +kernel
def mroT (ms : List (KD × List KD)) (cs : List KD) : KD → KD → Option Bool := fun a c => if c ∈ cs then (ms.lookup a).map fun m => decide (c ∈ m) else none
def kdAll (K : PySem.W.Frag) (cs : List KD) : List (KD × Value) := cs.map fun c => (c, kdV K c)
def mroB (ms : List (KD × List KD)) (cs : List KD) (K : PySem.W.Frag) : Bool := ms.all fun p => (kdAll K cs).all fun c => decide (PySem.W.kitOne K (kdV K p.1) c.2 = some (decide (c.1 ∈ p.2)))
theorem isOk_of {K : PySem.W.Frag} {ms : List (KD × List KD)} {cs : List KD} {os es : List Str} (h : mroB ms cs K = true) (ho : ∀ C ∈ os, InsF K (He.ga K C)) (he : ∀ C ∈ es, ExcF K (He.ga K C)) : IsOk K os es (mroT ms cs) := by
  refine ⟨fun a c b e => ?_, ho, he⟩
  unfold mroT at e
  split at e
  · rename_i hc
    cases q : ms.lookup a with
    | none => rw [q] at e; cases e
    | some m =>
      rw [q] at e
      have hm : (a, m) ∈ ms := by
        have : ∀ l : List (KD × List KD), l.lookup a = some m → (a, m) ∈ l := by
          intro l
          induction l with
          | nil => intro h; cases h
          | cons p r ih =>
            intro h
            obtain ⟨x, y⟩ := p
            by_cases hx : a = x
            · subst hx
              simp [List.lookup] at h
              subst h
              exact List.mem_cons_self
            · have e : (a == x) = false := by simpa using hx
              simp only [List.lookup, e] at h
              exact List.mem_cons_of_mem _ (ih h)
        exact this ms q
      have h1 := List.all_eq_true.mp h (a, m) hm
      have h2 := List.all_eq_true.mp h1 (c, kdV K c) (List.mem_map.mpr ⟨c, hc, rfl⟩)
      have h3 := of_decide_eq_true h2
      have e : decide (c ∈ m) = b := by simpa using e
      rw [← e]
      exact h3
  · cases e
end L2.Dl

namespace L2.Dl
open PySem PySem.Spec PyProof.Rows
/-! ### equality of data -/
theorem eqv_self {d : D} {p : PyData} (h : toPy d = some p) : PyData.eqv p p = true := by
  have all : ∀ n : Nat, (∀ d p, sizeOf d < n → toPy d = some p → PyData.eqv p p = true) := by
    intro n
    induction n with
    | zero => intro d p h; exact absurd h (Nat.not_lt_zero _)
    | succ n ih =>
      have lst : ∀ (xs : List D) (qs : List PyData), sizeOf xs < n + 1 → toPyL xs = some qs → PyData.eqvAll qs qs = true := by
        intro xs
        induction xs with
        | nil => intro qs _ h; cases h; rfl
        | cons x r ihr =>
          intro qs hl h
          unfold toPyL at h
          cases e1 : toPy x with
          | none => rw [e1] at h; cases h
          | some a =>
            cases e2 : toPyL r with
            | none => rw [e1, e2] at h; cases h
            | some b =>
              rw [e1, e2] at h
              cases h
              simp only [List.cons.sizeOf_spec] at hl
              have h1 := ih x a (by omega) e1
              have h2 := ihr b (by omega) e2
              rw [PyData.eqvAll, h1, h2]
              rfl
      intro d p hd h
      cases d with
      | non => cases h; rfl
      | bl b => cases h; simp [PyData.eqv]
      | int b => cases h; simp [PyData.eqv]
      | str b => cases h; simp [PyData.eqv]
      | lst xs =>
        simp only [toPy, Option.map_eq_some_iff] at h
        obtain ⟨qs, e, rfl⟩ := h
        simp only [D.lst.sizeOf_spec] at hd
        have := lst xs qs (by omega) e
        rw [PyData.eqv]
        exact this
      | tup xs =>
        simp only [toPy, Option.map_eq_some_iff] at h
        obtain ⟨qs, e, rfl⟩ := h
        simp only [D.tup.sizeOf_spec] at hd
        have := lst xs qs (by omega) e
        rw [PyData.eqv]
        exact this
      | _ => cases h
  exact all (sizeOf d + 1) d p (Nat.lt_succ_self _) h
theorem eqD_self {d : D} (h : okD d = true) : eqD d d = true := by
  obtain ⟨p, e, _⟩ := okD_some h
  unfold eqD
  rw [e]
  exact eqv_self e
@[simp] theorem toPyL_map {α : Type} (f : α → D) (g : α → PyData) (h : ∀ x, toPy (f x) = some (g x)) : ∀ l : List α, toPyL (l.map f) = some (l.map g)
  | [] => rfl
  | x :: r => by
    show (match toPy (f x), toPyL (r.map f) with | some p, some q => some (p :: q) | _, _ => none) = _
    rw [h x, toPyL_map f g h r]
    rfl
theorem okD_bools (l : List Bool) : okD (.lst (l.map D.bl)) = true := by
  unfold okD
  have e : toPy (.lst (l.map D.bl)) = some (.list (l.map PyData.bool)) := by
    show (toPyL (l.map D.bl)).map PyData.list = _
    rw [toPyL_map D.bl PyData.bool fun _ => rfl]
    rfl
  rw [e]
  have hd : ∀ m : List Bool, PyData.depthAll (m.map PyData.bool) = 0 := by
    intro m
    induction m with
    | nil => rfl
    | cons x r ih => show max (PyData.depth (.bool x)) (PyData.depthAll (r.map PyData.bool)) = 0; rw [ih]; rfl
  have h2 : (PyData.list (l.map PyData.bool)).depth = 1 := by show PyData.depthAll (l.map PyData.bool) + 1 = 1; rw [hd]
  show decide ((PyData.list (l.map PyData.bool)).depth ≤ 64) = true
  rw [h2]
  rfl
theorem okD_plain {n : Nat} {d : D} (h : plainD n d = true) (hn : n ≤ 63) : okD d = true := by
  obtain ⟨p, e, hd⟩ := plainD_ok h
  unfold okD
  rw [e]
  exact decide_eq_true (by omega)
end L2.Dl

namespace L2.Dl
open PySem PySem.Spec PyProof.Rows
/-! ### a def that runs within a built-in -/
section
variable {X : Cx} {pins : List (Addr × Obj)} {σ : L2.St} {H : Hp} {s : Shared} {F : List Addr} {M : MM} {k : Nat} {f : Addr} {sp : SpS}
theorem run_in {A' : Around} {E : Value → Shared → Prop} {us : List Value} {vs : List V} {xs : List D} {Q : QD} (Fn : FnS X.prog X.w X.K X.mg X.base k f [] sp) (hr : Room k A') (e0 : Env0 X.prog X.w X.K X.mg X.base A' X.stack s H) (I : Inv X pins σ H s) (mm : RMM X.K F H M) (r1 : Vals vs us)
    (a : RepA X.K (ak F M) H vs xs) (h : sp xs [] M X0 Q) : wpAny (model X.prog X.w) A' (call (.ref f) us) (EPD X F pins σ H M Q) E s := by
  refine wpAny_call (codeAny_mono (Fn A' X.stack s H us [] vs [] F xs [] M X0 Q (EQ X.K F H M Q) (fun _ _ _ => False) hr e0 r1 .nil rfl mm a .nil h KQ.eq fun C fs vs d H' M' st' mm' e n r q => q.elim) fun r s' hq => ?_)
  cases r with
  | error er =>
    obtain ⟨_, _, _, _, _, _, _, _, _, _, _, _, z⟩ := hq
    exact z.elim
  | ok fl =>
    cases fl with
    | ret u =>
      obtain ⟨v, H', I3, rv, d', M', st', mm', rp', q3⟩ := I.after hq
      exact ⟨v, H', d', M', I3, rv, st', mm', rp', q3⟩
    | next => exact False.elim hq
    | brk => exact False.elim hq
    | cont => exact False.elim hq
theorem rep_bl {K : PySem.W.Frag} {B : List Addr} {v : V} {u : Value} {b : Bool} (rp : Rep K B H v (.bl b)) (rv : RelV v u) : u = .bool b := by
  cases rp
  exact rv
theorem obj_at {d : D} {v : V} {u : Value} {C : Str} {fs : List (Str × D)} (I : Inv X pins σ H s) (mm : RMM X.K F H M) (r : Rep X.K (ak F M) H v d) (rv : RelV v u) (h : clsOf d M = some (C, fs)) : ∃ a od ox, u = .ref a ∧ v = .ref a ∧ PySem.W.InstAt s.heap a ox (He.ga X.K C) (some od) := by
  obtain ⟨a, dx, vs, rfl, h1, h2⟩ := clsOf_at mm r h
  obtain rfl : u = Value.ref a := rv
  obtain ⟨mA, O, _, _, _, _⟩ := ins_get I.hok h1
  obtain ⟨od, J, _⟩ := O.look
  exact ⟨a, od, _, rfl, rfl, J⟩
end
/-! ### == and != by an own __eq__ -/
section
variable {X : Cx} {C : Str} {g : Addr} {k : Nat} {sp : SpS} {os : List Str}
def OwnR (X : Cx) (r : R2D) : V → V → Hp → VK → Prop := fun x y H QV => ∃ F M dx dy Q, RMM X.K F H M ∧ Rep X.K (ak F M) H x dx ∧ Rep X.K (ak F M) H y dy ∧ r dx dy M Q ∧ KQ X.K F H M Q QV
theorem opD_own {f : Value → Value → Sem Value} {r : R2D} (h : OpR X f (OwnR X r)) : OpD X f r := ⟨_, h, fun F H M x y dx dy Q QV mm rx ry hr k => ⟨F, M, dx, dy, Q, mm, rx, ry, hr, k⟩⟩
/-- the kinds that may stand to the right -/
structure EqF (K : PySem.W.Frag) (C : Str) (os : List Str) (g : Addr) : Prop where
  eq : PySem.W.findIn K (.ref (He.ga K C)) "__eq__" = some (some (.ref g))
  fn : PySem.W.isFn K (.ref g) = true
  ne : PySem.W.findIn K (.ref (He.ga K C)) "__ne__" = some (some (.builtin "object.__ne__"))
  ob : PySem.W.mroIn K (He.ga K C) (.type "object") = some true
  pl : ∀ n ∈ ["NoneType", "bool", "int", "str", "list", "tuple"], PySem.W.notFirst K (He.ga K C) (.type n) = true
  ow : ∀ D ∈ os, InsF K (He.ga K D) ∧ PySem.W.notFirst K (He.ga K C) (.ref (He.ga K D)) = true
def eqB (C : Str) (os : List Str) (K : PySem.W.Frag) : Bool := He.eqO (PySem.W.findIn K (.ref (He.ga K C)) "__eq__") (some (some (.ref (He.fAd K (C, some "__eq__"))))) && (PySem.W.isFn K (.ref (He.fAd K (C, some "__eq__"))) && (He.eqO (PySem.W.findIn K (.ref (He.ga K C)) "__ne__") (some (some (.builtin "object.__ne__"))) && (optB (PySem.W.mroIn K (He.ga K C) (.type "object")) &&
  ((["NoneType", "bool", "int", "str", "list", "tuple"].all fun n => PySem.W.notFirst K (He.ga K C) (.type n)) && os.all fun D => insB D K && PySem.W.notFirst K (He.ga K C) (.ref (He.ga K D))))))
theorem eqB_ok {K : PySem.W.Frag} (h : eqB C os K = true) : EqF K C os (He.fAd K (C, some "__eq__")) := by
  obtain ⟨h1, h⟩ := He.ba h
  obtain ⟨h2, h⟩ := He.ba h
  obtain ⟨h3, h⟩ := He.ba h
  obtain ⟨h4, h⟩ := He.ba h
  obtain ⟨h5, h6⟩ := He.ba h
  exact ⟨He.eqO_ok h1, h2, He.eqO_ok h3, optB_ok h4, fun n hn => List.all_eq_true.mp h5 n hn, fun D hD => let z := He.ba (List.all_eq_true.mp h6 D hD); ⟨insB_ok z.1, z.2⟩⟩
theorem right_ty {pins : List (Addr × Obj)} {σ : L2.St} {H : Hp} {s : Shared} {F : List Addr} {M : MM} {d : D} {v : V} {u : Value} {c : KD} (q : EqF X.K C os g) (I : Inv X pins σ H s) (mm : RMM X.K F H M) (r : Rep X.K (ak F M) H v d) (rv : RelV v u) (h : kdX os [] d M = some c) :
    PySem.W.Looks (model X.prog X.w) s.heap (typeOf u) (kdV X.K c) ∧ PySem.W.notFirst X.K (He.ga X.K C) (kdV X.K c) = true := by
  have fin : ∀ t, TyX X.K H v t → PySem.W.Looks (model X.prog X.w) s.heap (typeOf u) t := fun t ty => by
    obtain ⟨P, Z, p, _⟩ := kit_of I rv ty
    exact Z.ty _ _ I.kIn p
  have own : ∀ D a dx fs, v = .ref a → H a = some (.ins (He.ga X.K D) dx fs) → D ∈ os → PySem.W.Looks (model X.prog X.w) s.heap (typeOf u) (.ref (He.ga X.K D)) ∧ PySem.W.notFirst X.K (He.ga X.K C) (.ref (He.ga X.K D)) = true := fun D a dx fs e hh hD => by
    subst e
    obtain ⟨f, n⟩ := q.ow D hD
    exact ⟨fin _ (.base (.ins hh f.cl f.ha f.hn f.ht f.hm)), n⟩
  cases r with
  | non => cases h; exact ⟨fin _ (.base .non), q.pl _ (by decide)⟩
  | bl y => cases h; exact ⟨fin _ (.base (.bl y)), q.pl _ (by decide)⟩
  | int y => cases h; exact ⟨fin _ (.base (.int y)), q.pl _ (by decide)⟩
  | str y => cases h; exact ⟨fin _ (.base (.str y)), q.pl _ (by decide)⟩
  | lst hx r => cases h; exact ⟨fin _ (.base (.lst hx.2)), q.pl _ (by decide)⟩
  | tup hx r =>
    cases h
    refine ⟨fin _ ?_, q.pl _ (by decide)⟩
    rcases hx with ⟨_, hx⟩ | ⟨o, its, m, hk, hc, _⟩
    · exact .base (.tup hx)
    · exact .kTuple hk hc
  | @obj p dx D vs fs h1 h2 r =>
    have h : (if D ∈ os then some (KD.own D) else none) = some c := h
    split at h
    · rename_i hD
      cases h
      exact own D p dx _ rfl h2 hD
    · cases h
  | @exn p d D oe vs fs h1 h2 z f d1 d2 r =>
    have h : (if D ∈ ([] : List Str) then some (KD.own D) else none) = some c := h
    split at h
    · rename_i hD; cases hD
    · cases h
  | ref p =>
    have h : (match M.lookup p with | some (.obj C _) => if C ∈ os then some (KD.own C) else none | some (.lst _) => some (KD.ty "list") | _ => none) = some c := h
    split at h
    · rename_i D fs e1
      obtain ⟨dx, ws, h1, h2⟩ := mm.get e1
      split at h
      · rename_i hD
        cases h
        exact own D p dx _ rfl h1 hD
      · cases h
    · rename_i xs' e1
      cases h
      obtain ⟨ws, h1, h2⟩ := mm.get e1
      exact ⟨fin _ (.base (.lst h1)), q.pl _ (by decide)⟩
    · cases h
  | _ => cases h
def blD : D → Option Bool
  | .bl b => some b
  | _ => none
@[simp] theorem blD_bl (b : Bool) : blD (.bl b) = some b := rfl
theorem optK_bl {d : D} {k : Bool → Prop} (h : optK (blD d) k) : ∃ b, d = .bl b ∧ k b := by
  cases d <;> first | exact h.elim | exact ⟨_, rfl, h⟩
def dOwnEq (C : Str) (os : List Str) (sp : SpS) (g : Bool → Bool) : R2D := fun x y M Q => optK (clsOf x M) fun c => c.1 = C ∧ optK (kdX os [] y M) fun _ => ask sp [x, y] [] M X0 fun d M' => optK (blD d) fun b => Q (.bl (g b)) M'
@[simp ↓] theorem dOwnEq_eq (C : Str) (os : List Str) (sp : SpS) (g : Bool → Bool) : ∀ x y M Q, dOwnEq C os sp g x y M Q = (optK (clsOf x M) fun c => c.1 = C ∧ optK (kdX os [] y M) fun _ => ask sp [x, y] [] M X0 fun d M' => optK (blD d) fun b => Q (.bl (g b)) M') := fun _ _ _ _ => rfl
theorem c_ownEq (q : EqF X.K C os g) (Fn : FnS X.prog X.w X.K X.mg X.base k g [] sp) (hr : Room k X.A) : OpD X (compareOp .Eq) (dOwnEq C os sp id) := by
  refine opD_own fun pins s σ H x y v u QV I rx ry hq => ?_
  obtain ⟨F, M, dx, dy, Q, mm, rpx, rpy, h0, kq⟩ := hq
  obtain ⟨⟨C', fs⟩, e1, hC, h1⟩ := optK_ex (show optK (clsOf dx M) _ from h0)
  clear h0
  have hC : C' = C := hC
  subst hC
  obtain ⟨c, e2, h⟩ := optK_ex h1
  obtain ⟨a, od, ox, rfl, rfl, J⟩ := obj_at I mm rpx rx e1
  obtain ⟨ty, nf⟩ := right_ty q I mm rpy ry e2
  obtain ⟨m, hF⟩ := I.fr
  refine PySem.W.cmp_K (op := .Eq) hr.units0 hF I.ok.mod.kin J ty nf q.eq q.fn ?_
  refine thn (run_in Fn hr I.env0 I mm (us := [.ref a, u]) (vs := [.ref a, y]) (.cons rfl (.cons ry .nil)) (.cons rpx (.cons rpy .nil)) h) fun w s' hw => ?_
  obtain ⟨z, H', d, M', I', rv, st, mm', rp, hb0⟩ := hw
  obtain ⟨b, eb, hb⟩ := optK_bl hb0
  subst eb
  obtain rfl := rep_bl rp rv
  exact ⟨.bl b, H', I', rfl, kq _ _ _ _ st mm' (.bl b) hb⟩
theorem c_ownNe (q : EqF X.K C os g) (Fn : FnS X.prog X.w X.K X.mg X.base k g [] sp) (hr : Room (k + 1) X.A) : OpD X (compareOp .NotEq) (dOwnEq C os sp not) := by
  refine opD_own fun pins s σ H x y v u QV I rx ry hq => ?_
  obtain ⟨F, M, dx, dy, Q, mm, rpx, rpy, h0, kq⟩ := hq
  obtain ⟨⟨C', fs⟩, e1, hC, h1⟩ := optK_ex (show optK (clsOf dx M) _ from h0)
  clear h0
  have hC : C' = C := hC
  subst hC
  obtain ⟨c, e2, h⟩ := optK_ex h1
  obtain ⟨a, od, ox, rfl, rfl, J⟩ := obj_at I mm rpx rx e1
  obtain ⟨ty, nf⟩ := right_ty q I mm rpy ry e2
  have KI := I.kIn
  have main : wpAny (model X.prog X.w) X.A.in1 (call (.ref g) [.ref a, u]) (fun w s' => ∃ b, w = .bool b ∧ EP X pins σ QV (.bool (!b)) s') X.xe s := by
    refine thn (run_in Fn hr.in1 I.env0.in1 I mm (us := [.ref a, u]) (vs := [.ref a, y]) (.cons rfl (.cons ry .nil)) (.cons rpx (.cons rpy .nil)) h) fun w s' hw => ?_
    obtain ⟨z, H', d, M', I', rv, st, mm', rp, hb0⟩ := hw
    obtain ⟨b, eb, hb⟩ := optK_bl hb0
    subst eb
    obtain rfl := rep_bl rp rv
    exact ⟨b, rfl, .bl (!b), H', I', rfl, kq _ _ _ _ st mm' (.bl _) hb⟩
  have sub : PySem.W.Looks (model X.prog X.w) s.heap (isInstance (.ref a) (.type "object")) true := J.type.andThen (PySem.W.looks_mroIn KI q.ob)
  have entry : wpAny (model X.prog X.w) X.A.in1 (Builtin.«object.__ne__» ⟨[.ref a, u], []⟩) (fun fin s' => match fin with | .done (.ret w) => EP X pins σ QV w s' ∧ w ≠ .notImplemented | _ => False) X.xe s := by
    unfold Builtin.«object.__ne__»
    refine wpAny_bind (wpAny_of_eq (a := ((Value.ref a : Value), [u])) (by first | rfl | (simp only [slotArgs]; rfl)) ?_)
    refine wpAny_bind (wpAny_cRoomFor (hr.in1.units0) ?_)
    refine wpAny_bind (PySem.W.ifBound_K KI J q.eq q.fn (wpAny_mono main (fun w s' hw => ?_) fun _ _ e => e))
    obtain ⟨b, rfl, hw⟩ := hw
    refine wpAny_bind (wpAny_truthy_bool (wpAny_pure ?_))
    exact ⟨hw, fun z => nomatch z⟩
  have callN : wpAny (model X.prog X.w) X.A (call (.builtin "object.__ne__") [.ref a, u]) (fun w s' => EP X pins σ QV w s' ∧ w ≠ .notImplemented) X.xe s := by
    refine wpAny_call (codeAny_call_builtin PySem.F.cmp_object.ne.plain PySem.F.cmpEntry_ne ?_)
    refine @PySem.W.check_slot (model X.prog X.w) _ _ s "object.__ne__" "object" "__ne__" (.ref a) [u] [] _ PySem.F.cmpKind_ne PySem.F.cmpSplit_ne sub (PySem.F.cmpArgs_ne _ _) ?_
    refine wpAny_mono entry (fun fin s' hf => ?_) fun _ _ e => e
    cases fin with
    | done fl => cases fl with
      | ret w => exact hf
      | _ => exact hf.elim
    | again c => exact hf.elim
  have one : wpAny (model X.prog X.w) X.A (tryCompare (.ref a) "__ne__" u) (fun r s' => ∃ w, r = some w ∧ EP X pins σ QV w s') X.xe s := by
    unfold tryCompare
    refine wpAny_bind ?_
    simp only [callSpecialIfBound?, bindSpecialIfBound?]
    refine wpAny_holding (wpAny_bind (wpAny_bind (wpAny_bind (J.type.here ((PySem.W.looks_findIn KI q.ne).here ?_)))))
    refine wpAny_bind (wpAny_askSetting (wpAny_ite ?_))
    have fin : wpAny (model X.prog X.w) X.A (call (.builtin "object.__ne__") ([.ref a] ++ [u]) >>= fun v => pure (some v)) (fun r s' => wpAny (model X.prog X.w) X.A (match r with | some .notImplemented => pure none | none => pure none | some v => pure (some v)) (fun r s' => ∃ w, r = some w ∧ EP X pins σ QV w s') X.xe s') X.xe s := by
      refine wpAny_bind (wpAny_mono callN (fun w s' hw => wpAny_pure ?_) fun _ _ e => e)
      cases w <;> first | exact absurd rfl hw.2 | exact wpAny_pure ⟨_, rfl, hw.1⟩
    simp only [PySem.F.cmp_object.ne.bind]
    split
    · exact wpAny_bind (wpAny_pure (wpAny_pure fin))
    · exact wpAny_tryCatch (wpAny_bind (wpAny_pure (wpAny_pure fin)))
  show wpAny (model X.prog X.w) X.A (richCompare .NotEq (.ref a) u) (EP X pins σ QV) X.xe s
  unfold richCompare
  simp only [oneThing_ref]
  refine wpAny_holding (wpAny_bind (wpAny_cRoomFor hr.units0 ?_))
  refine wpAny_bind (J.type.here (wpAny_bind (ty.here ?_)))
  split
  · rename_i q0
    have e : PySem.W.subIn X.K (kdV X.K c) (.ref (He.ga X.K C')) = some false := by
      rcases Bool.or_eq_true_iff.mp nf with e | e
      · rw [beq_iff_eq.mp e] at q0; simp at q0
      · exact beq_iff_eq.mp e
    refine wpAny_bind ((PySem.W.looks_subIn KI e).here ?_)
    simp only [Bool.false_eq_true, if_false]
    refine wpAny_bind (wpAny_mono one (fun r s' z => ?_) fun _ _ e => e)
    obtain ⟨v1, rfl, hq⟩ := z
    exact wpAny_pure hq
  · refine wpAny_bind (wpAny_pure ?_)
    simp only [Bool.false_eq_true, if_false]
    refine wpAny_bind (wpAny_mono one (fun r s' z => ?_) fun _ _ e => e)
    obtain ⟨v1, rfl, hq⟩ := z
    exact wpAny_pure hq
end
end L2.Dl

namespace L2.Dl
open PySem PySem.Spec PyProof.Rows
/-! ### f-strings -/
theorem okS_of (z : String) : PyData.strOk (Str.ofString z) = true := by
  rw [okS_iff, signs_ofString]
  intro c hc
  obtain ⟨ch, _, rfl⟩ := List.mem_map.mp hc
  have h := ch.valid
  unfold UInt32.isValidChar Nat.isValidChar at h
  show ch.val.toNat < _
  rcases h with h | h
  · exact Nat.lt_trans h (by decide)
  · exact h.2
section
variable {X : Cx} {e : Expr} {te : TD} {pos : Pos}
def dFmt (te : TD) : TD := fun ds M Z Q => te ds M Z fun d M1 => match d with
  | .str y => y.length ≤ sizeLine ∧ Q (.str y) M1
  | .int i => i.natAbs.log2 < 1920 ∧ Q (.str (toString i)) M1
  | _ => False
@[simp ↓] theorem dFmt_eq (te : TD) : ∀ ds M Z Q, dFmt te ds M Z Q = (te ds M Z fun d M1 => match d with
  | .str y => y.length ≤ sizeLine ∧ Q (.str y) M1
  | .int i => i.natAbs.log2 < 1920 ∧ Q (.str (toString i)) M1
  | _ => False) := fun _ _ _ _ => rfl
theorem d_fmt (he : PD X e te) : PD X (.FormattedValue e (-1) none pos) (dFmt te) := by
  refine PD.of (fun W tk => pe_fmt (he.pe tk)) fun W F σ H ds M Z Q hs ht => ?_
  refine ⟨F, ds, M, _, _, hs, ht, fun v H1 d M1 st mm rp q => ?_⟩
  cases rp with
  | str y hy => exact .inl ⟨y, rfl, q.1, (KQ.eq.on st).at mm (.str y hy) q.2⟩
  | int i => exact .inr ⟨i, rfl, q.1, (KQ.eq.on st).at mm (.str _ (okS_of _)) q.2⟩
  | _ => exact (show False from q).elim
inductive PJD (X : Cx) : List Expr → List TD → Prop where
  | nil : PJD X [] []
  | cons {e : Expr} {t : TD} {es : List Expr} {ts : List TD} (h : PD X e t) (r : PJD X es ts) : PJD X (e :: es) (t :: ts)
theorem PJD.pj {W : WX} (tk : Takes X W) : ∀ {es : List Expr} {ts : List TD}, PJD X es ts → PJ X es (ts.map (teOf X.K W))
  | _, _, .nil => .nil
  | _, _, .cons h r => .cons (h.pe tk) (PJD.pj tk r)
def dJs : List TD → Str → SD → MM → XD → (Str → MM → Prop) → Prop
  | [], acc, _, M, _, Q => Q acc M
  | t :: ts, acc, ds, M, Z, Q => t ds M Z fun d M1 => match d with
    | .str y => (acc ++ y).length ≤ sizeLine ∧ dJs ts (acc ++ y) ds M1 Z Q
    | _ => False
@[simp ↓] theorem dJs_nil (acc : Str) (ds : SD) (M : MM) (Z : XD) (Q : Str → MM → Prop) : dJs [] acc ds M Z Q = Q acc M := rfl
@[simp ↓] theorem dJs_cons (t : TD) (ts : List TD) (acc : Str) (ds : SD) (M : MM) (Z : XD) (Q : Str → MM → Prop) : dJs (t :: ts) acc ds M Z Q = (t ds M Z fun d M1 => match d with
    | .str y => (acc ++ y).length ≤ sizeLine ∧ dJs ts (acc ++ y) ds M1 Z Q
    | _ => False) := rfl
theorem js_of {W : WX} {F : List Addr} {σ : L2.St} {ds : SD} {Z : XD} : ∀ (ts : List TD) (acc : Str) (H : Hp) (M : MM) (Q : Str → MM → Prop) (QV : Str → Hp → Prop), PyData.strOk acc = true → Stt X.K W F H σ ds M Z → dJs ts acc ds M Z Q →
    (∀ out H' M', PyData.strOk out = true → Stp H (keys M) H' (keys M') → RMM X.K F H' M' → Q out M' → QV out H') → tJs (ts.map (teOf X.K W)) acc σ H QV
  | [], acc, H, M, Q, QV, ok, hs, h, k => k acc H M ok (.refl _ _) hs.mm h
  | t :: ts, acc, H, M, Q, QV, ok, hs, h, k => by
    refine ⟨F, ds, M, Z, _, hs, h, fun v H1 d M1 st mm rp q => ?_⟩
    cases rp with
    | str y hy => exact ⟨y, rfl, q.1, js_of ts _ H1 M1 Q QV (okS_app ok hy) (hs.to st mm) q.2 fun out H' M' o2 st2 mm2 q2 => k out H' M' o2 (st.trans st2) mm2 q2⟩
    | _ => exact (show False from q).elim
def dJoined (ts : List TD) : TD := fun ds M Z Q => dJs ts Str.empty ds M Z fun out M1 => Q (.str out) M1
@[simp ↓] theorem dJoined_eq (ts : List TD) : ∀ ds M Z Q, dJoined ts ds M Z Q = (dJs ts Str.empty ds M Z fun out M1 => Q (.str out) M1) := fun _ _ _ _ => rfl
theorem d_joined {v1 v2 : Expr} {rest : List Expr} {ts : List TD} (h : PJD X (v1 :: v2 :: rest) ts) : PD X (.JoinedStr (v1 :: v2 :: rest) pos) (dJoined ts) := by
  refine PD.of (fun W tk => pe_joined (h.pj tk)) fun W F σ H ds M Z Q hs ht => ?_
  exact js_of ts _ H M _ _ (by decide +kernel) hs ht fun out H' M' ok st mm q => ⟨.str out, M', st, mm, .str out ok, q⟩
/-! ### repr(x), x with an own __repr__ -/
def OwnC (X : Cx) (r : RCD) : List V → Hp → VK → Prop := fun vs H QV => ∃ F M xs Q, RMM X.K F H M ∧ RepA X.K (ak F M) H vs xs ∧ r xs M Q ∧ KQ X.K F H M Q QV
theorem callD_own {f : Value} {r : RCD} (h : CallR X f (OwnC X r)) : CallD X f r := ⟨_, h, fun F H M vs xs Q QV mm rx hr k => ⟨F, M, xs, Q, mm, rx, hr, k⟩⟩
variable {C : Str} {g : Addr} {k : Nat} {sp : SpS}
def strD : D → Option Str
  | .str b => some b
  | _ => none
@[simp] theorem strD_str (b : Str) : strD (.str b) = some b := rfl
theorem optK_str {d : D} {k : Str → Prop} (h : optK (strD d) k) : ∃ b, d = .str b ∧ k b := by
  cases d <;> first | exact h.elim | exact ⟨_, rfl, h⟩
def dReprO (C : Str) (sp : SpS) : RCD := fun xs M Q => match xs with
  | [x] => optK (clsOf x M) fun c => c.1 = C ∧ ask sp [x] [] M X0 fun d M' => optK (strD d) fun y => Q (.str y) M'
  | _ => False
@[simp ↓] theorem dReprO_eq (C : Str) (sp : SpS) : ∀ xs M Q, dReprO C sp xs M Q = (match xs with
  | [x] => optK (clsOf x M) fun c => c.1 = C ∧ ask sp [x] [] M X0 fun d M' => optK (strD d) fun y => Q (.str y) M'
  | _ => False) := fun _ _ _ => rfl
theorem k_reprO (me : Meth X.K (He.ga X.K C) "__repr__" g) (Fn : FnS X.prog X.w X.K X.mg X.base k g [] sp) (hr : Room (k + 1) X.A) : CallD X (.builtin "repr") (dReprO C sp) := by
  refine callD_own fun pins s σ H vs us QV I rv hq => ?_
  obtain ⟨F, M, xs, Q, mm, rp, h0, kq⟩ := hq
  unfold dReprO at h0
  split at h0
  · rename_i x
    obtain ⟨⟨C', fs⟩, e1, hC, h⟩ := optK_ex h0
    clear h0
    have hC : C' = C := hC
    subst hC
    cases rp with
    | cons rpx rn =>
      cases rn
      cases rv with
      | cons rx rn =>
        cases rn
        obtain ⟨a, od, ox, rfl, rfl, J⟩ := obj_at I mm rpx rx e1
        obtain ⟨m, hF⟩ := I.fr
        refine PySem.W.repr_K (hr.in1.units0) hF I.ok.mod.kin J me.at_ me.fn ?_
        refine thn (run_in Fn hr.in1 I.env0.in1 I mm (us := [.ref a]) (vs := [.ref a]) (.cons rfl .nil) (.cons rpx .nil) h) fun w s' hw => ?_
        obtain ⟨z, H', d, M', I', rv, st, mm', rp, hy0⟩ := hw
        obtain ⟨y, ey, hy⟩ := optK_str hy0
        subst ey
        cases rp with
        | str y ok =>
          obtain ⟨t, rfl⟩ := rv
          exact ⟨.str y, H', I', ⟨t, rfl⟩, kq _ _ _ _ st mm' (.str y ok) hy⟩
  · exact h0.elim
end
end L2.Dl

namespace L2.Dl
open PySem PySem.Spec PyProof.Rows
section
variable {X : Cx} {W : WX} {pins : List (Addr × Obj)} {σ : L2.St} {H : Hp} {s : Shared} {F : List Addr} {M : MM} {Z : XD} {k : Nat} {f : Addr} {ks : List Str} {sp : SpS}
/-- a bound method, called -/
theorem run_bound {q : Addr} {c : Addr} {us ws : List Value} {vs zs : List V} {d : D} {xs ys : List D} {Q : QD} (tk : Takes X W) (Fn : FnS X.prog X.w X.K X.mg X.base k f ks sp) (hr : Room k X.A) (I : Inv X ((q, PySem.W.methodObj (.ref f) (.ref c)) :: pins) σ H s) (mm : RMM X.K F H M) (kx : KW X.K F H M σ Z W) (r1 : Vals vs us) (r2 : Vals zs ws) (hl : zs.length = ks.length)
    (rc : Rep X.K (ak F M) H (.ref c) d) (a : RepA X.K (ak F M) H vs xs) (b : RepA X.K (ak F M) H zs ys) (h : sp (d :: xs) ys M Z Q) : wpAny (model X.prog X.w) X.A (call (.ref q) us (ks.zip ws)) (EPD X F pins σ H M Q) X.xe s := by
  refine wpAny_call (PySem.W.method_call (ClX.pin_at I) (codeAny_mono (Fn X.A X.stack s H (.ref c :: us) ws (.ref c :: vs) zs F (d :: xs) ys M Z Q (EQ X.K F H M Q) (fun c d H' => W c d σ H') hr I.env0 (.cons rfl r1) r2 hl mm (.cons rc a) b h KQ.eq fun C fs vs d H' M' st mm' e n r q => kx C fs vs d H' M' st mm' e n r q) fun r s' hq => ?_))
  cases r with
  | error e => exact tk e s' (XE.of_call I (fun _ _ _ z => z) hq)
  | ok fl =>
    cases fl with
    | ret u =>
      obtain ⟨v, H', I3, rv, d', M', st', mm', rp', q3⟩ := I.after hq
      exact ⟨v, H', d', M', ClX.unpin I3, rv, st', mm', rp', q3⟩
    | next => exact False.elim hq
    | brk => exact False.elim hq
    | cont => exact False.elim hq
end
section
variable {X : Cx} {k i : Nat} {f g p C : Addr} {mc : Value} {ks : List Str} {sp : SpS} {x m Cn : Str} {pp pos apos : Pos} {e o : Expr} {es : List Expr} {t tk : TAD} {to : TD} {kws : List Keyword} {pl : Sem Bool}
/-- C.m(..), m a classmethod -/
def dCMeth (Cn : Str) (sp : SpS) (to : TD) (t tk : TAD) : TD := fun ds M Z Q => to ds M Z fun o M1 => o = .glo Cn ∧ t ds M1 Z fun xs M2 => tk ds M2 Z fun ys M3 => ask sp (.glo Cn :: xs) ys M3 Z Q
@[simp ↓] theorem dCMeth_eq (Cn : Str) (sp : SpS) (to : TD) (t tk : TAD) : ∀ ds M Z Q, dCMeth Cn sp to t tk ds M Z Q = (to ds M Z fun o M1 => o = .glo Cn ∧ t ds M1 Z fun xs M2 => tk ds M2 Z fun ys M3 => ask sp (.glo Cn :: xs) ys M3 Z Q) := fun _ _ _ _ => rfl
theorem d_cmeth (r : ClX.CRead X.K (He.ga X.K Cn) mc) (c : ClX.CMet X.K (He.ga X.K Cn) mc m p g) (Fn : FnS X.prog X.w X.K X.mg X.base k g [] sp) (hr : Room k X.A) (ho : PD X o to) (ha : PAD X (e :: es) t) (hpl : noStars (e :: es) = true := by rfl)
    (hev : eval (.Call (.Attribute o m apos) (e :: es) [] pos) X.env = (do
      let ov ← eval o X.env
      standAt apos.atName
      let (f, first) ← holding [ov] (getMethod ov m pl)
      callWith pos f first (backTo pos (starEach (e :: es) X.env)) (backToKw pos (keywordEach [] X.env))) := by rfl) : PD X (.Call (.Attribute o m apos) (e :: es) [] pos) (dCMeth Cn sp to t dNil) := by
  refine ⟨fun W tks F pins s σ H ds M Z Q I hs ht => ?_⟩
  have he : notStar e = true := (Bool.and_eq_true_iff.mp (show (notStar e && es.all notStar) = true from hpl)).1
  have hes : noStars es = true := (Bool.and_eq_true_iff.mp (show (notStar e && es.all notStar) = true from hpl)).2
  refine PySem.W.methodCall_KW (pl := pl) (thn (ho.run W tks F pins s σ H ds M Z _ I hs ht) fun u s1 ⟨x, H1, d, M1, I1, rx, st, mm, rp, ed, q⟩ => ?_) hev
  subst ed
  cases rp
  obtain rfl : u = Value.ref (He.ga X.K Cn) := rx
  refine ClX.getmethcm_ok I1 r c fun s2 I2 => ?_
  refine ClX.callwith_cm I2 (ClX.base_none I1 (Nat.le_refl _)) c.fi (thn (ha.run W tks pos F _ s2 σ H1 ds M1 Z _ I2 (hs.to st mm) q) fun us s3 ⟨vs, H2, xs, M2, I3, rv, st2, mm2, rp2, q2⟩ => ⟨⟨ClX.pin_at I3, I3.kIn⟩, ?_⟩) (star_cons he) (star_any hes)
  have s12 := st.trans st2
  exact thn (run_bound (ks := []) (ws := []) (zs := []) (ys := []) tks Fn hr I3 mm2 (hs.kx.on s12) rv .nil rfl (.glo _) rp2 .nil q2) fun u s' h => EPD.up s12 h
/-- C.m(k = v, ..) -/
theorem d_cmethK0 (r : ClX.CRead X.K (He.ga X.K Cn) mc) (c : ClX.CMet X.K (He.ga X.K Cn) mc m p g) (Fn : FnS X.prog X.w X.K X.mg X.base k g ks sp) (hr : Room k X.A) (ho : PD X o to) (hkw : PKD X kws tk) (hks : kwsOk kws ks = true := by rfl)
    (hev : eval (.Call (.Attribute o m apos) [] kws pos) X.env = (do
      let ov ← eval o X.env
      standAt apos.atName
      let (f, first) ← holding [ov] (getMethod ov m pl)
      callWith pos f first (backTo pos (starEach [] X.env)) (backToKw pos (keywordEach kws X.env))) := by rfl) : PD X (.Call (.Attribute o m apos) [] kws pos) (dCMeth Cn (fun xs ys M Z Q => ys.length = ks.length ∧ sp xs ys M Z Q) to dNil tk) := by
  refine ⟨fun W tks F pins s σ H ds M Z Q I hs ht => ?_⟩
  refine PySem.W.methodCall_KW (pl := pl) (thn (ho.run W tks F pins s σ H ds M Z _ I hs ht) fun u s1 ⟨x, H1, d, M1, I1, rx, st, mm, rp, ed, q⟩ => ?_) hev
  subst ed
  cases rp
  obtain rfl : u = Value.ref (He.ga X.K Cn) := rx
  refine ClX.getmethcm_ok I1 r c fun s2 I2 => ?_
  refine PySem.W.callWith_of (P := PySem.W.MethP X.K s1.heap.objs.size g (.ref (He.ga X.K Cn))) (by rw [star_any (es := []) rfl, kw_none hks]; rfl) (PySem.W.keeps_M c.fi) (evalArgs_kw2_nil (kw_all hks) ?_)
  refine thn (hkw.run W tks pos F _ s2 σ H1 ds M1 Z _ I2 (hs.to st mm) q) fun ws s3 ⟨zs, H2, ys, M2, I3, rz, st2, mm2, rp2, q2⟩ => ⟨⟨ClX.pin_at I3, I3.kIn⟩, ?_⟩
  have s12 := st.trans st2
  rw [kw_ks hks]
  exact thn (run_bound (us := []) (vs := []) (xs := []) tks Fn hr I3 mm2 (hs.kx.on s12) .nil rz (by rw [rp2.len]; exact q2.1) (.glo _) .nil rp2 q2.2) fun u s' h => EPD.up s12 h
/-- x(..), x a local name that stands for the class C -/
def dCallL (i : Nat) (Cn : Str) (sp : SpS) (t : TAD) : TD := fun ds M Z Q => slotK ds[i]? fun v => v = .glo Cn ∧ t ds M Z fun xs M1 => ask sp xs [] M1 Z Q
@[simp ↓] theorem dCallL_eq (i : Nat) (Cn : Str) (sp : SpS) (t : TAD) : ∀ ds M Z Q, dCallL i Cn sp t ds M Z Q = (slotK ds[i]? fun v => v = .glo Cn ∧ t ds M Z fun xs M1 => ask sp xs [] M1 Z Q) := fun _ _ _ _ => rfl
theorem d_callL (hv : PD X (.Name x pp) (dVar i)) (Cl : CalS X (He.ga X.K Cn) [] sp) (hk : PySem.W.keepIn X.K (.ref (He.ga X.K Cn)) = true) (ha : PAD X (e :: es) t) (he : notStar e = true := by rfl) (hpl : noStars es = true := by rfl) : PD X (.Call (.Name x pp) (e :: es) [] pos) (dCallL i Cn sp t) := by
  refine ⟨fun W tks F pins s σ H ds M Z Q I hs ht => ?_⟩
  have ht : slotK ds[i]? fun v => v = .glo Cn ∧ t ds M Z fun xs M1 => ask sp xs [] M1 Z Q := ht
  unfold slotK at ht
  split at ht
  · rename_i v ev
    obtain ⟨rfl, ht⟩ := ht
    refine wpAny_Call_Name_kw (thn (hv.run W tks F pins s σ H ds M Z (fun d M' => d = .glo Cn ∧ M' = M) I hs (by show slotK ds[i]? _; rw [ev]; exact ⟨rfl, rfl⟩)) fun u s1 ⟨y, H1, d, M1, I1, ry, st, mm, rp, ed, em⟩ => ?_)
    subst ed em
    cases rp
    obtain rfl : u = Value.ref (He.ga X.K Cn) := ry
    refine PySem.W.callWith_K (h₀ := X.base) I.ok.mod.kin hk (thn (ha.run W tks pos F pins s1 σ H1 ds M1 Z _ I1 (hs.to st mm) ht) fun us s2 ⟨vs, H2, xs, M2, I2, r, st2, mm2, rp2, q⟩ => ⟨I2.kIn, ?_⟩) (star_cons he) (star_any hpl)
    have s12 := st.trans st2
    exact thn (Cl W tks pins σ H2 s2 F M2 Z us [] vs [] xs [] Q I2 mm2 (hs.kx.on s12) r .nil rfl rp2 .nil q) fun u s' h => EPD.up s12 h
  · exact ht.elim
end
end L2.Dl

namespace L2.Dl
open PySem PySem.Spec PyProof.Rows
section
variable {X : Cx} {g : Addr} {ks : List Str} {sp : SpS}
/-! ### an object that is made and stays as it is -/
def frzSp (sp : SpS) : SpS := fun xs ys M Z Q => sp xs ys M Z fun d M1 => match d with
  | .ref p => optK ((M1.lookup p).bind frzO) fun d => letK (drop M1 p) fun M2 => Q d M2
  | _ => False
@[simp ↓] theorem frzSp_eq (sp : SpS) : ∀ xs ys M Z Q, frzSp sp xs ys M Z Q = (sp xs ys M Z fun d M1 => match d with
  | .ref p => optK ((M1.lookup p).bind frzO) fun d => letK (drop M1 p) fun M2 => Q d M2
  | _ => False) := fun _ _ _ _ _ => rfl
theorem epd_frz {pins : List (Addr × Obj)} {σ : L2.St} {H : Hp} {F : List Addr} {M : MM} {Q : QD} {u : Value} {s' : Shared} (h : EPD X F pins σ H M (fun d M1 => match d with
  | .ref p => optK ((M1.lookup p).bind frzO) fun d => letK (drop M1 p) fun M2 => Q d M2
  | _ => False) u s') : EPD X F pins σ H M Q u s' := by
  obtain ⟨v, H', d, M', I', r, st, mm, rp, q⟩ := h
  cases d with
  | ref p =>
    cases rp
    have q : optK ((M'.lookup p).bind frzO) fun d => Q d (drop M' p) := q
    cases e1 : M'.lookup p with
    | none => rw [e1] at q; exact q.elim
    | some mo =>
      rw [e1] at q
      have sd := stp_drop (H := H') (M := M') (p := p)
      cases mo with
      | lst xs =>
        obtain ⟨n, vs, h1, h2⟩ := frz_ok mm e1
        exact ⟨.ref p, H', .lst xs, drop M' p, I', r, st.trans sd, mm.drop p, .lst ⟨n, h1⟩ h2, q⟩
      | obj C fs =>
        obtain ⟨n, dx, vs, h1, h2⟩ := frz_ok mm e1
        exact ⟨.ref p, H', .obj C fs, drop M' p, I', r, st.trans sd, mm.drop p, .obj n h1 h2, q⟩
      | dK fs =>
        obtain ⟨n, vs, h1, h2⟩ := frz_ok mm e1
        exact ⟨.ref p, H', .dK fs, drop M' p, I', r, st.trans sd, mm.drop p, .dK n h1 h2, q⟩
      | dT fs =>
        obtain ⟨n, vs, h1, h2⟩ := frz_ok mm e1
        exact ⟨.ref p, H', .dT fs, drop M' p, I', r, st.trans sd, mm.drop p, .dT n h1 h2, q⟩
      | bag => exact q.elim
      | tab _ => exact q.elim
      | tup xs =>
        obtain ⟨n, vs, h1, h2⟩ := frz_ok mm e1
        exact ⟨.ref p, H', .tup xs, drop M' p, I', r, st.trans sd, mm.drop p, .tup (.inl ⟨n, h1⟩) h2, q⟩
  | _ => exact (show False from q).elim
theorem cal_frz (h : CalS X g ks sp) : CalS X g ks (frzSp sp) := fun W tk pins σ H s F M Z us ws vs zs xs ys Q I mm kx r1 r2 hl a b q =>
  thn (h W tk pins σ H s F M Z us ws vs zs xs ys _ I mm kx r1 r2 hl a b q) fun u s' e => epd_frz e
/-! ### calls of built-ins -/
/-- str(i) -/
def dStrI : RCD := fun xs M Q => match xs with
  | [.int i] => i.natAbs.log2 < 1920 ∧ Q (.str (toString i)) M
  | _ => False
@[simp ↓] theorem dStrI_eq : ∀ xs M Q, dStrI xs M Q = (match xs with
  | [.int i] => i.natAbs.log2 < 1920 ∧ Q (.str (toString i)) M
  | _ => False) := fun _ _ _ => rfl
theorem k_strI : CallD X (.type "str") dStrI := by
  refine ⟨_, call_str_int, fun F H M vs xs Q QV mm rp hr k => ?_⟩
  unfold dStrI at hr
  split at hr
  · rename_i i
    obtain ⟨v, rfl, r⟩ := repA1 rp
    cases r
    exact ⟨i, rfl, hr.1, k.at mm (.str _ (okS_of _)) hr.2⟩
  · exact hr.elim
/-- int(x), x a text -/
def dIntT : RCD := fun xs M Q => match xs with
  | [.str x] => ∃ n, intText? x = some n ∧ x.length ≤ 640 ∧ Q (.int n) M
  | _ => False
@[simp ↓] theorem dIntT_eq : ∀ xs M Q, dIntT xs M Q = (match xs with
  | [.str x] => ∃ n, intText? x = some n ∧ x.length ≤ 640 ∧ Q (.int n) M
  | _ => False) := fun _ _ _ => rfl
theorem call_int_text : CallR X (.type "int") (fun xs H Q => ∃ x n, xs = [.str x] ∧ intText? x = some n ∧ x.length ≤ 640 ∧ Q (.int n) H) := by
  intro pins s σ H xs us Q I r h
  obtain ⟨x, n, rfl, e, hl, q⟩ := h
  cases r with
  | cons rx rn =>
    cases rn
    obtain ⟨t, rfl⟩ := rx
    exact PySem.W.KIN.call_text e hl ⟨.int n, H, I.tok _, ⟨_, rfl⟩, q⟩
theorem k_intT : CallD X (.type "int") dIntT := by
  refine ⟨_, call_int_text, fun F H M vs xs Q QV mm rp hr k => ?_⟩
  unfold dIntT at hr
  split at hr
  · rename_i x
    obtain ⟨n, e, hl, q⟩ := hr
    obtain ⟨v, rfl, r⟩ := repA1 rp
    cases r
    exact ⟨x, n, rfl, e, hl, k.at mm (.int n) q⟩
  · exact hr.elim
/-- sorted(d), d a dict whose keys are texts; sorted(l), l a list of texts -/
def strKs : List (Key × D) → Option (List Str)
  | [] => some []
  | (.inr x, _) :: r => (strKs r).map (x :: ·)
  | _ => none
theorem strKs_eq : ∀ {kvs : List (Key × D)} {xs : List Str}, strKs kvs = some xs → kvs.map (·.1) = xs.map Sum.inr
  | [], xs, h => by cases h; rfl
  | (.inr x, _) :: r, xs, h => by
    cases e : strKs r with
    | none => simp only [strKs, e] at h; cases h
    | some ys =>
      simp only [strKs, e, Option.map_some, Option.some.injEq] at h
      subst h
      simp only [List.map_cons, strKs_eq e]
  | (.inl _, _) :: _, _, h => by cases h
theorem strsD_at {K : PySem.W.Frag} {B : List Addr} {H : Hp} : ∀ {vs : List V} {ds : List D} {xs : List Str}, RepA K B H vs ds → strsD ds = some xs → vs = xs.map V.str ∧ ∀ x ∈ xs, PyData.strOk x = true
  | _, _, xs, .nil, h => by cases h; exact ⟨rfl, fun _ h => (nomatch h)⟩
  | _, _, xs, @RepA.cons _ _ _ v vs d ds rd r, h => by
    cases rd with
    | str x ok =>
      cases e : strsD ds with
      | none => simp only [strsD, e] at h; cases h
      | some ys =>
        simp only [strsD, e, Option.map_some, Option.some.injEq] at h
        subst h
        obtain ⟨e1, e2⟩ := strsD_at r e
        exact ⟨by rw [e1]; rfl, fun x hx => by
          rcases List.mem_cons.mp hx with z | z
          · subst z; exact ok
          · exact e2 x z⟩
    | _ => cases h
theorem repA_okS {K : PySem.W.Frag} {B : List Addr} {H : Hp} : ∀ {xs : List Str}, (∀ x ∈ xs, PyData.strOk x = true) → RepA K B H (xs.map V.str) (xs.map D.str)
  | [], _ => .nil
  | x :: r, h => .cons (.str x (h x List.mem_cons_self)) (repA_okS fun y hy => h y (List.mem_cons_of_mem _ hy))
def dSortD : RCD := fun xs M Q => match xs with
  | [.dK kvs] => optK (strKs kvs) fun ks => ks.length < 64 ∧ (∀ x ∈ ks, PyData.strOk x = true) ∧ ∀ ys : List Str, ys.Perm ks → sortedS ys = true → Q (.lst (ys.map D.str)) M
  | _ => False
@[simp ↓] theorem dSortD_eq : ∀ xs M Q, dSortD xs M Q = (match xs with
  | [.dK kvs] => optK (strKs kvs) fun ks => ks.length < 64 ∧ (∀ x ∈ ks, PyData.strOk x = true) ∧ ∀ ys : List Str, ys.Perm ks → sortedS ys = true → Q (.lst (ys.map D.str)) M
  | _ => False) := fun _ _ _ => rfl
theorem k_sortedD (hc : X.calm = true) : CallD X (.builtin "sorted") dSortD := by
  refine ⟨_, call_sortedD hc, fun F H M vs xs Q QV mm rp hr k => ?_⟩
  unfold dSortD at hr
  split at hr
  · rename_i kvs
    obtain ⟨ys, e, h64, ok, q⟩ := optK_ex hr
    obtain ⟨v, rfl, r⟩ := repA1 rp
    cases r with
    | @dK a vs fs h1 h2 r =>
      refine ⟨a, vs, ys, rfl, .inl h2, by rw [r.fst]; exact strKs_eq e, h64, fun zs p hp hs hn => ?_⟩
      exact k.newL mm (repA_okS fun x hx => ok x (hp.mem_iff.mp hx)) (q zs hp hs) p hn
  · exact hr.elim
def dSortS : RCD := fun xs M Q => match xs with
  | [.lst ds] => optK (strsD ds) fun ks => ks.length < 64 ∧ ∀ ys : List Str, ys.Perm ks → sortedS ys = true → Q (.lst (ys.map D.str)) M
  | _ => False
@[simp ↓] theorem dSortS_eq : ∀ xs M Q, dSortS xs M Q = (match xs with
  | [.lst ds] => optK (strsD ds) fun ks => ks.length < 64 ∧ ∀ ys : List Str, ys.Perm ks → sortedS ys = true → Q (.lst (ys.map D.str)) M
  | _ => False) := fun _ _ _ => rfl
theorem k_sortedS : CallD X (.builtin "sorted") dSortS := by
  refine ⟨_, cr_sortedS, fun F H M vs xs Q QV mm rp hr k => ?_⟩
  unfold dSortS at hr
  split at hr
  · rename_i ds
    obtain ⟨ys, e, h64, q⟩ := optK_ex hr
    obtain ⟨v, rfl, r⟩ := repA1 rp
    cases r with
    | lst hx r =>
      obtain ⟨e1, ok⟩ := strsD_at r e
      subst e1
      exact ⟨_, ys, rfl, hx.sq, h64, fun zs p hp hs hn => k.newL mm (repA_okS fun x hx => ok x (hp.mem_iff.mp hx)) (q zs hp hs) p hn⟩
  · exact hr.elim
/-! ### d.get(k, x), d a dict that stays as it is -/
theorem valV_look {K : PySem.W.Frag} {B : List Addr} {H : Hp} {k : Key} : ∀ {vs : List (Key × V)} {fs : List (Key × D)}, RepF K B H Key vs fs → (∀ d, ((fs.find? fun kv => decide (kv.1 = k)).map (·.2)) = some d → ∃ v, valV vs k = some v ∧ Rep K B H v d) ∧ (((fs.find? fun kv => decide (kv.1 = k)).map (·.2)) = none → valV vs k = none)
  | _, _, .nil => ⟨fun _ h => by simp at h, fun _ => rfl⟩
  | _, _, @RepF.cons _ _ _ _ f v vs d ds q r => by
    unfold valV
    by_cases h : f = k
    · subst h
      simp only [List.find?_cons, decide_true, Option.map_some]
      exact ⟨fun d' e => ⟨v, rfl, by cases e; exact q⟩, fun e => nomatch e⟩
    · simp only [List.find?_cons, h, decide_false]
      exact valV_look r
variable {o e f : Expr} {td ty tx : TD} {apos cpos : Pos}
def getD (kvs : List (Key × D)) (k : Key) (z : D) : D := ((kvs.find? fun kv => decide (kv.1 = k)).map (·.2)).getD z
def dGet2 (td ty tx : TD) : TD := fun ds M Z Q => td ds M Z fun x M1 => match x with
  | .dK kvs => ty ds M1 Z fun y M2 => (match y with
    | .str s => tx ds M2 Z fun z M3 => letK (getD kvs (.inr s) z) fun r => Q r M3
    | _ => False)
  | _ => False
@[simp ↓] theorem dGet2_eq (td ty tx : TD) : ∀ ds M Z Q, dGet2 td ty tx ds M Z Q = (td ds M Z fun x M1 => match x with
  | .dK kvs => ty ds M1 Z fun y M2 => (match y with
    | .str s => tx ds M2 Z fun z M3 => letK (getD kvs (.inr s) z) fun r => Q r M3
    | _ => False)
  | _ => False) := fun _ _ _ _ => rfl
theorem d_get2 (hu : X.A.units + 1 < cLine) (ho : PD X o td) (he : PD X e ty) (hf : PD X f tx) (m : M2 X o "get" apos e f cpos) : PD X (.Call (.Attribute o "get" apos) [e, f] [] cpos) (dGet2 td ty tx) := by
  refine PD.of (fun W tk => pe_dget2 hu (ho.pe tk) (he.pe tk) (hf.pe tk) m) fun W F σ H ds M Z Q hs ht => ?_
  refine ⟨F, ds, M, _, _, hs, ht, fun v H1 d M1 st mm rp q => ?_⟩
  cases rp with
  | @dK a vs fs h1 h2 r =>
    refine ⟨a, rfl, .inl ⟨vs, .inl h2⟩, ?_⟩
    refine ⟨F, ds, M1, _, _, hs.to st mm, q, fun v2 H2 d2 M2 st2 mm2 rp2 q2 => ?_⟩
    cases rp2 with
    | str y hy =>
      have s12 := st.trans st2
      refine ⟨F, ds, M2, _, _, hs.to s12 mm2, q2, fun v3 H3 d3 M3 st3 mm3 rp3 q3 => ?_⟩
      have s23 := st2.trans st3
      obtain ⟨n3, e3⟩ := s23.fix (F := F) a _ h1 h2
      have r3 := r.step s23.fix
      obtain ⟨l1, l2⟩ := valV_look (k := .inr y) r3
      refine ⟨valV vs (.inr y), .inl ⟨vs, .inr y, .inl e3, rfl, rfl⟩, ?_⟩
      have q3 : Q (getD fs (.inr y) d3) M3 := q3
      unfold getD at q3
      cases e4 : (fs.find? fun kv => decide (kv.1 = (.inr y : Key))).map (·.2) with
      | none =>
        rw [e4] at q3
        rw [l2 e4]
        exact (KQ.eq.on (s12.trans st3)).at mm3 rp3 q3
      | some d4 =>
        rw [e4] at q3
        obtain ⟨w, e5, r5⟩ := l1 d4 e4
        rw [e5]
        exact (KQ.eq.on (s12.trans st3)).at mm3 r5 q3
    | _ => exact (show False from q2).elim
  | _ => exact (show False from q).elim
end
end L2.Dl

namespace L2.Dl
open PySem PySem.Spec PyProof.Rows
/-! ### keywords gathered into a dict -/
def entK (w : World) (x : Str × Tok × Value) : DictEntry := ⟨PyData.keyHash w.params x.1, .str x.1 x.2.1, x.2.2⟩
theorem putL_new {w : World} {n : Str} {hs : Int} {key v : Value} : ∀ (l : List (Str × Tok × Value)), (∀ x ∈ l, x.1 ≠ n) → PySem.W.putL n hs key v (l.map (entK w)) = l.map (entK w) ++ [⟨hs, key, v⟩]
  | [], _ => rfl
  | x :: r, h => by
    have e : (entK w x).key.isStr n = false := by
      show (x.1 == n) = false
      simpa using h x List.mem_cons_self
    show PySem.W.putL n hs key v (entK w x :: r.map (entK w)) = _
    unfold PySem.W.putL
    rw [e]
    simp only [Bool.false_eq_true, if_false, List.map_cons, List.cons_append]
    rw [putL_new r fun y hy => h y (List.mem_cons_of_mem _ hy)]
theorem no_ref {w : World} (l : List (Str × Tok × Value)) : ((l.map (entK w)).toArray.any (·.refKey)) = false := by
  simp only [List.any_toArray]
  rw [List.any_eq_false]
  intro e he
  obtain ⟨x, _, rfl⟩ := List.mem_map.mp he
  simp [entK, DictEntry.refKey]
theorem ns_put {prog : Program} {w : World} {A : Around} {E : Value → Shared → Prop} {h : Heap} {g : Array GenState} {d : Drawn} {t : Nat} {os : OsState} {p : Addr} {l : List (Str × Tok × Value)} {n : Nat} {name : Str} {v : Value} {Q : Unit → Shared → Prop}
    (hp : h.get? p = some (PySem.W.dictOf (l.map (entK w)) n)) (hn : ∀ x ∈ l, x.1 ≠ name)
    (hq : ∀ h' n', h'.get? p = some (PySem.W.dictOf ((l ++ [(name, t, v)]).map (entK w)) n') → (∀ b o, b ≠ p → h.get? b = some o → h'.get? b = some o) → h.objs.size ≤ h'.objs.size → Q () ⟨h', g, d, t + 1, os⟩) :
    wpAny (model prog w) A (nsSet p name v) Q E ⟨h, g, d, t, os⟩ := by
  unfold nsSet
  refine wpAny_bind (wpAny_bind (wpAny_askSetting (wpAny_pure (wpAny_bind (wpAny_mkText (wpAny_bind (wpAny_loadPart hp ?_)))))))
  dsimp only
  have c : aRefKeyMayBeTheName name (l.map (entK w)).toArray = false := by
    rw [aRefKeyMayBeTheName_at, no_ref, Bool.and_false]
  rw [c]
  refine wpAny_updatePart hp ?_
  have e : Obj.putName name (PyData.keyHash w.params name) (.str name t) v (PySem.W.dictOf (l.map (entK w)) n) = PySem.W.dictOf ((l ++ [(name, t, v)]).map (entK w)) (PySem.W.putN name (l.map (entK w)) n) := by
    rw [PySem.W.putName_dict, putL_new l hn, List.map_append]
    rfl
  refine hq _ (PySem.W.putN name (l.map (entK w)) n) ?_ (fun b o hb z => ?_) ?_
  · show (h.update p (Obj.putName name (PyData.keyHash w.params name) (.str name t) v)).get? p = _
    rw [Heap.get?_update_self _ hp (show (Obj.putName name (PyData.keyHash w.params name) (.str name t) v (PySem.W.dictOf (l.map (entK w)) n)).isFreed = false by rw [e]; rfl), ← e]
  · rw [Heap.get?_update_other _ _ (Ne.symm hb)]
    exact z
  · show h.objs.size ≤ (h.update p _).objs.size
    rw [Heap.size_update]
    exact Nat.le_refl _
theorem ns_all {prog : Program} {w : World} {A : Around} {E : Value → Shared → Prop} {g : Array GenState} {d : Drawn} {os : OsState} {p : Addr} {Q : PUnit → Shared → Prop} : ∀ (kw : List (Str × Value)) (l : List (Str × Tok × Value)) (n : Nat) (h : Heap) (t : Nat), h.get? p = some (PySem.W.dictOf (l.map (entK w)) n) → (∀ x ∈ l, ∀ y ∈ kw, x.1 ≠ y.1) → (kw.map (·.1)).Nodup →
    (∀ h' t' (m : List (Str × Tok × Value)) n', h'.get? p = some (PySem.W.dictOf ((l ++ m).map (entK w)) n') → m.map (fun x => (x.1, x.2.2)) = kw → (∀ b o, b ≠ p → h.get? b = some o → h'.get? b = some o) → h.objs.size ≤ h'.objs.size → Q PUnit.unit ⟨h', g, d, t', os⟩) →
    wpAny (model prog w) A (forIn kw PUnit.unit fun kv _ => do nsSet p kv.1 kv.2; pure (ForInStep.yield PUnit.unit)) Q E ⟨h, g, d, t, os⟩
  | [], l, n, h, t, hp, _, _, hq => by
    rw [List.forIn_nil]
    exact wpAny_pure (hq h t [] n (by rw [List.append_nil]; exact hp) rfl (fun _ _ _ z => z) (Nat.le_refl _))
  | (k, v) :: r, l, n, h, t, hp, hd, hn, hq => by
    rw [List.forIn_cons]
    rw [List.map_cons, List.nodup_cons] at hn
    refine wpAny_bind (wpAny_bind (ns_put hp (fun x hx => hd x hx (k, v) List.mem_cons_self) fun h1 n1 e1 k1 z1 => wpAny_pure ?_))
    refine ns_all r (l ++ [(k, t, v)]) n1 h1 (t + 1) e1 (fun x hx y hy => ?_) hn.2 fun h' t' m n' e' em k' z' => ?_
    · rcases List.mem_append.mp hx with hx | hx
      · exact hd x hx y (List.mem_cons_of_mem _ hy)
      · have ex : x = (k, t, v) := by simpa using hx
        subst ex
        intro z
        exact hn.1 (List.mem_map.mpr ⟨y, hy, z.symm⟩)
    · refine hq h' t' ((k, t, v) :: m) n' (by simpa using e') (by simp [em]) (fun b o hb z => k' b o hb (k1 b o hb z)) (Nat.le_trans z1 z')
theorem dict_of {prog : Program} {w : World} {h : Heap} {p : Addr} {n : Nat} {m : List (Str × Tok × Value)} (hp : h.get? p = some (PySem.W.dictOf (m.map (entK w)) n)) (hn : (m.map (·.1)).Nodup) : h.DictOf (mixKind prog w) p (m.map fun x => ((.inr x.1 : Key), x.2.2)) := by
  refine ⟨_, (m.map (entK w)).toArray, n, hp, ⟨rfl, rfl, rfl⟩, rfl, fun e he => ?_, ?_, ?_⟩
  · have he : e ∈ m.map (entK w) := by simpa using he
    obtain ⟨x, _, rfl⟩ := List.mem_map.mp he
    exact ⟨.inr x.1, keyIs_str x.1 x.2.1, rfl⟩
  · show Pairs (mixKind prog w) (m.map (entK w)) _
    clear hp hn
    induction m with
    | nil => exact .nil
    | cons x r ih => exact .cons (keyIs_str x.1 x.2.1) rfl ih
  · rw [List.map_map]
    have : (fun x : Str × Tok × Value => ((Sum.inr x.1 : Key))) = Sum.inr ∘ (·.1) := rfl
    show (m.map ((·.1) ∘ fun x : Str × Tok × Value => ((.inr x.1 : Key), x.2.2))).Nodup
    have e : ((·.1) ∘ fun x : Str × Tok × Value => ((.inr x.1 : Key), x.2.2)) = fun x : Str × Tok × Value => (Sum.inr x.1 : Key) := rfl
    rw [e]
    have h2 : (m.map fun x : Str × Tok × Value => (Sum.inr x.1 : Key)) = (m.map (·.1)).map Sum.inr := by rw [List.map_map]; rfl
    rw [h2]
    exact hn.map _ fun a b h z => h (Sum.inr.inj z)
section
variable {P : Program} {w : World} {K : PySem.W.Frag} {mg : Str → Option Value} {base : Heap} {A : Around} {outer : List Env} {s : Shared} {H : Hp}
theorem env0_more {a : Addr} {u : HO} {h' : Heap} {t' : Nat} (e0 : Env0 P w K mg base A outer s H) (k : ∀ b x, s.heap.get? b = some x → h'.get? b = some x) (ha : s.heap.objs.size ≤ a) (hz : s.heap.objs.size ≤ h'.objs.size) (new : ObjOk P w (upd H a u) h' a u) :
    Env0 P w K mg base A outer { s with heap := h', toks := t' } (upd H a u) := by
  refine ⟨e0.frames, e0.mod, fun b x e => ⟨k b x (e0.bs b x e).1, ?_⟩, Nat.le_trans e0.bsz hz, Heap.FunFrames.of_keeps (fun b x e _ => ⟨x, k b x e, rfl⟩) e0.funs, fun b hb => ?_, e0.hok.laid k ha new, e0.bare⟩
  · rw [upd_ne (Nat.ne_of_lt (Nat.lt_of_lt_of_le (Heap.lt_size (e0.bs b x e).1) ha))]
    exact (e0.bs b x e).2
  · obtain ⟨_, x, hx, _⟩ := e0.funs.mem hb
    rw [upd_ne (Nat.ne_of_lt (Nat.lt_of_lt_of_le (Heap.lt_size hx) ha))]
    exact e0.frf b hb
end
/-- kvs, by keys and values -/
def zipK (ks : List Str) (ys : List D) : List (Key × D) := (ks.zip ys).map fun p => (.inr p.1, p.2)
theorem repF_zip {K : PySem.W.Frag} {B : List Addr} {H : Hp} : ∀ {ks : List Str} {zs : List V} {ys : List D}, RepA K B H zs ys → RepF K B H Key ((ks.zip zs).map fun p => ((.inr p.1 : Key), p.2)) (zipK ks ys)
  | [], _, _, _ => by
    have e1 : ∀ l : List V, (([] : List Str).zip l) = [] := fun l => rfl
    exact .nil
  | _ :: _, _, _, .nil => .nil
  | k :: ks, _, _, .cons h r => .cons h (repF_zip r)
section
variable {P : Program} {w : World} {K : PySem.W.Frag} {mg : Str → Option Value} {base : Heap} {x qual : Str} {params : Arguments} {body : List Stmt} {scope : Scope} {kws : List (Str × V)} {f : Addr} {fd : FuncData}
theorem kv_zip : ∀ {ks : List Str} {zs : List V} {m : List (Str × Tok × Value)} {ws : List Value}, m.map (fun x => (x.1, x.2.2)) = ks.zip ws → Vals zs ws → zs.length = ks.length → KV ((ks.zip zs).map fun p => ((.inr p.1 : Key), p.2)) (m.map fun x => ((.inr x.1 : Key), x.2.2))
  | [], _, m, ws, e, r, hl => by
    have : m = [] := by simpa using e
    subst this
    exact .nil
  | k :: ks, [], _, _, _, _, hl => by cases hl
  | k :: ks, z :: zs, m, ws, e, rw', hl => by
    obtain ⟨u, us, rfl, r, rs⟩ : ∃ u us, ws = u :: us ∧ RelV z u ∧ Vals zs us := by
      cases rw' with
      | cons a b => exact ⟨_, _, rfl, a, b⟩
    cases m with
    | nil => cases e
    | cons y m =>
      rw [List.map_cons, List.zip_cons_cons] at e
      injection e with e1 e2
      have h1 : y.1 = k := congrArg Prod.fst e1
      have h2 : y.2.2 = u := congrArg Prod.snd e1
      refine .cons ⟨?_, ?_⟩ (kv_zip e2 rs (by simpa using hl))
      · show (Sum.inr k : Key) = Sum.inr y.1
        rw [h1]
      · show RelV z y.2.2
        rw [h2]; exact r
/-- def f(a, .., **d), called with the keywords ks -/
theorem fns_kw {N ps ks : List Str} {pd : Str} {k : Nat} {sp : SpD} (Fn : FunD K x qual params body scope [] kws f fd) (S : FnScope N (ps ++ [pd]) scope) {t : TSD} (hb : BodyD P w K mg base N qual scope f k body t)
    (hbind : ∀ (kV doc pm : Value) (an : Option Addr) (cdv ct : Value) (us ws : List Value), us.length = ps.length → ws.length = ks.length → bindArgs (PySem.W.fnOf x qual params body scope .none kV doc pm an cdv ct) ⟨us, ks.zip ws⟩ =
      ((alloc ({ cls := .type "dict", data := .dict #[] } : Obj) : Sem Addr) >>= fun d => (forIn (ks.zip ws) PUnit.unit fun kv _ => do nsSet d kv.1 kv.2; pure (ForInStep.yield PUnit.unit)) >>= fun _ => pure (ps.zip us ++ [(pd, .ref d)])))
    (hnd : ks.Nodup) (hkl : ks.length ≤ 100)
    (hp : ∀ xs M Z Q, sp xs M Z Q → t { nx := fun _ M' => Q .non M', rt := Q, xc := fun C fs _ M' => Z C fs M' } (startD N xs) M) :
    FnS P w K mg base (k + 1) f ks (fun xs ys M Z Q => xs.length = ps.length ∧ sp (xs ++ [.dK (zipK ks ys)]) M Z Q) := by
  obtain ⟨oc, od, dV, kV, doc, pm, an, cdv, ct, osl, rfl, lk, hcd, hD, hK⟩ := Fn.ex
  have hdv : dV = .none := by
    rcases hD with ⟨_, e⟩ | ⟨e, _⟩
    · exact e
    · exact absurd rfl e
  subst hdv
  intro A outer s H us ws vs zs F xs ys M Z QD Q E hr e0 r1 r2 hl mm a b h kq kx
  have hul : us.length = ps.length := by rw [← r1.length, a.len]; exact h.1
  have hwl : ws.length = ks.length := by rw [← r2.length]; exact hl
  have hvl : vs.length = ps.length := by rw [a.len]; exact h.1
  refine StX.run_bnd (k := k) lk hcd S hr e0 (G := fun xs' H2 => ∃ p, H p = none ∧ xs' = vs ++ [V.ref p] ∧ H2 = upd H p (.dK ((ks.zip zs).map fun p => ((.inr p.1 : Key), p.2)))) (fun A' Ex Q' hh => ?_) fun s2 H2 xs' ⟨p, hp', ex, eH⟩ hr' => ?_
  · rw [hbind kV doc pm an cdv ct us ws hul hwl]
    have hsz : sysModules < s.heap.objs.size := StX.env0_big e0
    obtain ⟨hp0, g, d, tt, os⟩ := s
    refine wpAny_bind (wpAny_alloc ?_)
    have hzn : ((ks.zip ws).map (·.1)) = ks := by rw [List.map_fst_zip (by omega)]
    refine wpAny_bind (ns_all (w := w) (ks.zip ws) [] 0 _ tt (by exact Heap.get?_push_size hp0 rfl) (fun x hx => nomatch hx) (by rw [hzn]; exact hnd) fun h' t' m n' e' em k' z' => wpAny_pure ?_)
    rw [List.nil_append] at e'
    have hmn : (m.map (·.1)) = ks := by
      have : m.map (·.1) = (m.map fun x => (x.1, x.2.2)).map (·.1) := by rw [List.map_map]; rfl
      rw [this, em, hzn]
    have kp : ∀ b o, hp0.get? b = some o → h'.get? b = some o := fun b o z => k' b o (Nat.ne_of_lt (Heap.lt_size z)) (Heap.get?_push_of_some _ z)
    have hz2 : hp0.objs.size ≤ h'.objs.size := Nat.le_trans (by rw [Heap.size_push]; exact Nat.le_succ _) z'
    have new : ObjOk P w (upd H hp0.objs.size (.dK ((ks.zip zs).map fun p => ((.inr p.1 : Key), p.2)))) h' hp0.objs.size (.dK ((ks.zip zs).map fun p => ((.inr p.1 : Key), p.2))) :=
      ⟨by rw [List.length_map, sizeLine_eq]; have := List.length_zip (l₁ := ks) (l₂ := zs); omega, beq_eq_false_iff_ne.mpr (Ne.symm (Nat.ne_of_lt hsz)), _, kv_zip em r2 hl, dict_of e' (by rw [hmn]; exact hnd)⟩
    have hn : H hp0.objs.size = none := e0.hok.fresh (Nat.le_refl _)
    have un : Un (frs outer) [] H (upd H hp0.objs.size (.dK ((ks.zip zs).map fun p => ((.inr p.1 : Key), p.2)))) hp0 h' := Un.laid kp (Nat.le_refl _) hn
    have z := hh ⟨h', g, d, t', os⟩ _ (vs ++ [V.ref hp0.objs.size]) (us ++ [Value.ref hp0.objs.size]) (env0_more (s := ⟨hp0, g, d, tt, os⟩) e0 kp (Nat.le_refl _) hz2 new) un rfl (fun e s' => StX.cxUp outer ⟨hp0, g, d, tt, os⟩ H ⟨h', g, d, t', os⟩ _ E e s' un kp rfl) (r1.append (.cons rfl .nil)) (by rw [List.length_append, List.length_append, hvl] <;> rfl) ⟨_, hn, rfl, rfl⟩
    rw [List.zip_append hul.symm] at z
    exact z
  · subst ex eH
    refine body_run hb hp cdv A outer s2 _ (vs ++ [V.ref p]) Q E hr' ?_
    refine ⟨F, xs ++ [.dK (zipK ks ys)], M, Z, QD, mm.new hp', ?_, h.2, fun v H' d M' st mm' rp q => kq v H' d M' ((stp_new hp').trans st) mm' rp q, fun C fs vs d H' M' st mm' e n r q => kx C fs vs d H' M' ((stp_new hp').trans st) mm' e n r q⟩
    exact (a.step (stp_new hp').fix).append (.cons (.dK (mm.notin hp') upd_same ((repF_zip b).step (stp_new hp').fix)) .nil)
end
/-! ### o.m(k = v, ..) -/
section
variable {X : Cx} {o : Expr} {to : TD} {tk : TAD} {m C : Str} {g : Addr} {sp : SpS} {ks : List Str} {kws : List Keyword} {apos pos : Pos}
theorem d_methK0 {pl : Sem Bool} (hc : Cls X.K (He.ga X.K C)) (hm : Meth X.K (He.ga X.K C) m g) (Cl : CalS X g ks sp) (ho : PD X o to) (hkw : PKD X kws tk) (hks : kwsOk kws ks = true := by rfl)
    (hev : eval (.Call (.Attribute o m apos) [] kws pos) X.env = (do
      let ov ← eval o X.env
      standAt apos.atName
      let (f, first) ← holding [ov] (getMethod ov m pl)
      callWith pos f first (backTo pos (starEach [] X.env)) (backToKw pos (keywordEach kws X.env))) := by rfl) : PD X (.Call (.Attribute o m apos) [] kws pos) (dMeth C m (fun xs ys M Z Q => ys.length = ks.length ∧ sp xs ys M Z Q) to dNil tk) := by
  refine ⟨fun W tks F pins s σ H ds M Z Q I hs ht => ?_⟩
  refine PySem.W.methodCall_KW (pl := pl) (thn (ho.run W tks F pins s σ H ds M Z _ I hs ht) fun u s1 ⟨x, H1, d, M1, I1, rx, st, mm, rp, q0⟩ => ?_) hev
  obtain ⟨⟨C', fs⟩, e1, hC, hl, q⟩ := optK_ex q0
  clear q0
  have hC : C' = C := hC
  subst hC
  obtain ⟨a, dx, vs, rfl, h1, h2⟩ := clsOf_at mm rp e1
  obtain rfl : u = Value.ref a := rx
  refine getmeth_ok I1 h1 hc hm (h2.lookN hl) ?_
  refine PySem.W.callWith_KW0 (first := [.ref a]) (h₀ := X.base) I.ok.mod.kin hm.kp (kw_all hks) ?_ (by rw [star_any (es := []) rfl, kw_none hks]; rfl)
  refine thn (hkw.run W tks pos F pins s1 σ H1 ds M1 Z _ I1 (hs.to st mm) q) fun ws s2 ⟨zs, H2, ys, M2, I2, rz, st2, mm2, rp2, q2⟩ => ⟨I2.kIn, ?_⟩
  rw [kw_ks hks]
  have s12 := st.trans st2
  exact thn (Cl W tks pins σ H2 s2 F M2 Z [.ref a] ws [.ref a] zs [d] ys Q I2 mm2 (hs.kx.on s12) (.cons rfl .nil) rz (by rw [rp2.len]; exact q2.1) (.cons (rp.step st2.fix) .nil) rp2 q2.2) fun u s' h => EPD.up s12 h
/-! ### a tuple of texts that stands at the top -/
theorem kt_of {K : PySem.W.Frag} {x : Str} {ds : List Str} (h : He.tupB K x (ds.map He.Dv.str) = true) : KT K (He.ga K x) (ds.map V.str) := by
  have z := He.tupB_ok h (fun _ => none)
  have e : (ds.map He.Dv.str).map (He.Dv.v K) = ds.map V.str := by rw [List.map_map]; rfl
  rw [e] at z
  rcases z with (z | ⟨_, z⟩) | z
  · cases z
  · cases z
  · exact z
theorem d_globT {x : Str} {ds : List Str} {p : Pos} (hm : X.mg x = some (.ref (He.ga X.K x))) (h : He.tupB X.K x (ds.map He.Dv.str) = true) (ok : ds.all PyData.strOk = true) (hg : Gl X x := by rfl) (hdb : (x == ("__debug__" : Str)) = false := by decide) : PD X (.Name x p) (dC (.tup (ds.map D.str))) := by
  refine PD.of (fun W tk => pe_glob (v := .ref (He.ga X.K x)) hg hm rfl hdb) fun W F σ H ds' M Z Q hs ht => ?_
  exact KQ.eq.at hs.mm (.tup (.inr (kt_of h)) (repA_strs ds ok)) ht
end
end L2.Dl

namespace L2.Dl
open PySem PySem.Spec PyProof.Rows
/-! ### defs that stand in a record: a property's getter, a classmethod's def, a staticmethod's -/
def adR (K : PySem.W.Frag) (p : Str × Option Str) : Addr := match K.lookup (He.fAd K p) with
  | some ⟨_, _, .fields vs, _⟩ => (match vs.toList with
    | .ref g :: _ => g
    | _ => 0)
  | _ => 0
def fnR (K : PySem.W.Frag) (p : Str × Option Str) : He.FnW := match K.lookup (adR K p) with
  | some ⟨_, _, .func fd, _⟩ => some (fd.name, fd.qualname, fd.params, fd.body, fd.scope, fd.globals, fd.closure, fd.builtins)
  | _ => none
def okR (d : He.DefD) (K : PySem.W.Frag) : Bool := PySem.W.keepIn K (.ref (adR K d.at_)) && (match K.lookup (adR K d.at_) with
  | some ⟨_, _, .func fd, _⟩ => PySem.W.codeIn K fd.code d.qual && (He.dflB K fd.defaults (d.dvs K) && He.kwdB K fd.kwdefaults (d.kws K))
  | _ => false)
theorem funR {K : PySem.W.Frag} {d : He.DefD} (e : fnR K d.at_ = d.val) (c : okR d K = true) : ∃ fd, FunD K d.name d.qual d.params d.body d.scope (d.dvs K) (d.kws K) (adR K d.at_) fd := by
  obtain ⟨kp, c2⟩ := He.ba c
  unfold fnR at e
  cases q : K.lookup (adR K d.at_) with
  | none =>
    rw [q] at c2
    cases c2
  | some o =>
    obtain ⟨oc, od, dt, osl⟩ := o
    rw [q] at c2 e
    cases dt with
    | func fd =>
      obtain ⟨n1, n2, n3, n4, n5, n6, n7, n8, n9, n10, n11, n12, n13, n14, n15⟩ := fd
      have e2 : (some (n1, n2, n3, n4, n5, n6, n7, n15) : He.FnW) = (some (d.name, d.qual, d.params, .stmts d.body, d.scope, mainGlobals, [], builtinsNs) : He.FnW) := e
      simp only [Option.some.injEq, Prod.mk.injEq] at e2
      obtain ⟨z1, z2, z3, z4, z5, z6, z7, z8⟩ := e2
      subst z1 z2 z3 z4 z5 z6 z7 z8
      have c3 : (PySem.W.codeIn K n13 d.qual && (He.dflB K n8 (d.dvs K) && He.kwdB K n9 (d.kws K))) = true := c2
      obtain ⟨k1, k2⟩ := He.ba c3
      obtain ⟨k3, k4⟩ := He.ba k2
      exact ⟨_, ⟨oc, od, n8, n9, n10, n11, n12, n13, n14, osl, rfl, q, k1, He.dflB_ok k3, He.kwdB_ok k4⟩, kp⟩
    | _ => cases c2
def recB (K : PySem.W.Frag) (p : Str × Option Str) (T : String) : Bool := match PySem.W.recIn K (He.fAd K p) T with
  | some (.ref g :: _) => decide (g = adR K p)
  | _ => false
theorem recB_ok {K : PySem.W.Frag} {p : Str × Option Str} {T : String} (h : recB K p T = true) : ∃ rest, PySem.W.recIn K (He.fAd K p) T = some (.ref (adR K p) :: rest) := by
  unfold recB at h
  split at h
  · rename_i g r e
    have eg : g = adR K p := of_decide_eq_true h
    rw [eg] at e
    exact ⟨r, e⟩
  · cases h
/-- a property -/
def propB (C f : Str) (K : PySem.W.Frag) : Bool := He.eqO (PySem.W.findIn K (.ref (He.ga K C)) f) (some (some (.ref (He.fAd K (C, some f))))) && (He.eqO (PySem.W.specialIn K (.ref (He.fAd K (C, some f))) "__get__") (some (some (.builtin "property.__get__"))) && (optB (PySem.W.takesIn K (.ref (He.fAd K (C, some f)))) && recB K (C, some f) "property"))
theorem propB_ok {C f : Str} {K : PySem.W.Frag} (h : propB C f K = true) : PropOf K (He.ga K C) f (He.fAd K (C, some f)) (adR K (C, some f)) := by
  obtain ⟨h1, h⟩ := He.ba h
  obtain ⟨h2, h⟩ := He.ba h
  obtain ⟨h3, h4⟩ := He.ba h
  exact ⟨He.eqO_ok h1, He.eqO_ok h2, optB_ok h3, recB_ok h4⟩
/-- a classmethod -/
def cmB (C m : Str) (K : PySem.W.Frag) : Bool := PySem.W.readsIn K (He.ga K C) (.type "type") && (He.eqO (PySem.W.specialIn K (.ref (He.ga K C)) "__getattribute__") (some (some (.builtin "type.__getattribute__"))) && ((match PySem.W.findCls K (.ref (He.ga K C)) (.type "type") m with
  | some (.get (.builtin i) (.ref p) .none (.ref D)) => decide (i = "classmethod.__get__") && (decide (p = He.fAd K (C, some m)) && decide (D = He.ga K C))
  | _ => false) && (recB K (C, some m) "classmethod" && PySem.W.fnIn K (adR K (C, some m)))))
theorem cmB_ok {C m : Str} {K : PySem.W.Frag} (h : cmB C m K = true) : ClX.CRead K (He.ga K C) (.type "type") ∧ ClX.CMet K (He.ga K C) (.type "type") m (He.fAd K (C, some m)) (adR K (C, some m)) := by
  obtain ⟨h1, h⟩ := He.ba h
  obtain ⟨h2, h⟩ := He.ba h
  obtain ⟨h3, h⟩ := He.ba h
  obtain ⟨h4, h5⟩ := He.ba h
  refine ⟨⟨h1, He.eqO_ok h2⟩, ⟨?_, recB_ok h4, h5⟩⟩
  split at h3
  · rename_i i p D e
    obtain ⟨k1, k2⟩ := He.ba h3
    obtain ⟨k2, k3⟩ := He.ba k2
    rw [e, of_decide_eq_true k1, of_decide_eq_true k2, of_decide_eq_true k3]
  · cases h3
/-- fields: no class attribute hides them -/
def fldB (Cs : List Str) (f : Str) (K : PySem.W.Frag) : Bool := Cs.all fun C => (He.Fa.cls C).ok K && He.eqO (PySem.W.findIn K (.ref (He.ga K C)) f) (some none)
theorem fldB_ok {Cs : List Str} {f : Str} {K : PySem.W.Frag} (h : fldB Cs f K = true) : FldOk K Cs f := fun C hC => by
  obtain ⟨h1, h2⟩ := He.ba (List.all_eq_true.mp h C hC)
  exact ⟨He.cls_ok h1, He.eqO_ok h2⟩
/-! ### the hook -/
abbrev AlZ : Type := AlY × List He.FnW
def obsZ (fa : List He.Fa) (fn : List He.DefD) (fx : List (PySem.W.Frag → Bool)) (fe fr : List He.DefD) (K : PySem.W.Frag) : AlZ := (obsY fa fn fx fe K, fr.map fun d => fnR K d.at_)
def vaZ (fn fe fr : List He.DefD) : AlZ := (vaY fn fe, fr.map He.DefD.val)
def SaysZ (fa : List He.Fa) (fn : List He.DefD) (fx : List (PySem.W.Frag → Bool)) (fe fr : List He.DefD) (K : PySem.W.Frag) : Prop := obsZ fa fn fx fe fr K = vaZ fn fe fr
def obsZG (n : Nat) (fa : List He.Fa) (fn : List He.DefD) (fx : List (PySem.W.Frag → Bool)) (fe fr : List He.DefD) (g : Addr → Option Obj) : AlZ := obsZ fa fn fx fe fr (He.frG g (asZ g n))
def hookZ (n : Nat) (fa : List He.Fa) (fn : List He.DefD) (fx : List (PySem.W.Frag → Bool)) (fe fr : List He.DefD) : PySem.W.Hook where
  α := AlZ
  obs := fun s => obsZG n fa fn fx fe fr s.heap.get?
  val := fun _ => vaZ fn fe fr
  says := fun _ h => ∃ K : PySem.W.Frag, K.In h ∧ SaysZ fa fn fx fe fr K
  of := fun _ _ e => ⟨_, He.frG_in, e⟩
  keeps := fun _ _ _ ⟨K, hK, c⟩ k => ⟨K, PySem.W.Frag.In.keeps hK k, c⟩
theorem obsZG_eq {n : Nat} {fa : List He.Fa} {fn : List He.DefD} {fx : List (PySem.W.Frag → Bool)} {fe fr : List He.DefD} {g : Addr → Option Obj} {s : Shared} (h : ∀ a, g a = s.heap.get? a) : obsZG n fa fn fx fe fr g = (hookZ n fa fn fx fe fr).obs s := by
  have e : g = s.heap.get? := funext h
  rw [e] <;> rfl
structure TopZ (fa : List He.Fa) (fn : List He.DefD) (fx : List (PySem.W.Frag → Bool)) (fe fr : List He.DefD) (file : Str) (P : Program) (K : PySem.W.Frag) (mg : Str → Option Value) : Prop extends TopY fa fn fx fe file P K mg where
  fr_ : (fr.map fun d => fnR K d.at_) = fr.map He.DefD.val
theorem TopZ.fr_at {fa : List He.Fa} {fn : List He.DefD} {fx : List (PySem.W.Frag → Bool)} {fe fr : List He.DefD} {file : Str} {P : Program} {K : PySem.W.Frag} {mg : Str → Option Value} (T : TopZ fa fn fx fe fr file P K mg) (i : Nat) {d : He.DefD} (h : fr[i]? = some d := by rfl) : fnR K d.at_ = d.val := by
  have e2 : (fr.map fun d => fnR K d.at_)[i]? = (fr.map He.DefD.val)[i]? := by rw [T.fr_]
  rw [List.getElem?_map, List.getElem?_map, h] at e2
  exact Option.some.inj e2
theorem topZ_of {fa : List He.Fa} {fn : List He.DefD} {fx : List (PySem.W.Frag → Bool)} {fe fr : List He.DefD} {file : Str} {P : Program} {K : PySem.W.Frag} {h : Heap} {mg : Str → Option Value} (hP : PFile P file) (KX : K.In h) (G : h.Ns mainGlobals mg) (c : SaysZ fa fn fx fe fr K) : TopZ fa fn fx fe fr file P K mg :=
  { topY_of hP KX G (congrArg (fun z : AlZ => z.1) c : SaysY fa fn fx fe K) with fr_ := congrArg (fun z : AlZ => z.2) c }
end L2.Dl

namespace L2.Dl
open PySem PySem.Spec PyProof.Rows
/-! ### raise -/
theorem lay_mk {X : Cx} {pins : List (Addr × Obj)} {σ : L2.St} {H : Hp} {s : Shared} {Q : XK} {h' : Heap} {tk : Nat} {e dx t1 : Addr} {C : Addr} {fsV : List (Str × V)} {mA : Str → Option Value}
    (I : Inv X pins σ H s) (k : ∀ b o, s.heap.get? b = some o → h'.get? b = some o) (he : h'.get? e = some (eO C t1 (some dx))) (hn : h'.Ns1 dx mA) (le : s.heap.objs.size ≤ e) (ld : s.heap.objs.size ≤ dx)
    (rel : ∀ f, RelO (fsV.lookup f) (mA f)) (r : Raises X (.ref C)) (q : Q (.ref C) (some dx) (upd H dx (.xd fsV))) : MkP X pins σ Q (.ref e) { s with heap := h', toks := tk } := by
  have hd : H dx = none := I.hok.fresh ld
  have hee : H e = none := I.hok.fresh le
  have hne : dx ≠ e := fun z => by
    obtain ⟨o, es, ep, ho, r⟩ := hn
    rw [z, he] at ho
    cases ho
    cases r.1
  have lt : ∀ {b : Addr} {o : Obj}, s.heap.get? b = some o → b ≠ e ∧ b ≠ dx := fun {b o} z => ⟨Nat.ne_of_lt (Nat.lt_of_lt_of_le (Heap.lt_size z) le), Nat.ne_of_lt (Nat.lt_of_lt_of_le (Heap.lt_size z) ld)⟩
  have kh : ∀ b o, s.heap.get? b = some o → (PySem.W.hideAll h' [e]).get? b = some o := fun b o z => PySem.W.hideAll_get _ (k b o z) (by simpa using (lt z).1)
  have U : Un X.fs [] H (upd H dx (.xd fsV)) s.heap (PySem.W.hideAll h' [e]) := {
    keep := fun b o z _ _ _ => kh b o z
    slot := fun b o z _ _ _ => ⟨o.slots, kh b o z⟩
    free := fun b o z n _ => by rw [upd_ne (lt z).2]; exact n
    there := fun b o z _ => ⟨o, kh b o z⟩
    tups := fun b xs z => by rw [upd_ne (ne_of_none z hd)]; exact z
    frzs := fun b o u z => by rw [upd_ne (ne_of_none z hd)]; exact z
    tbls := fun b ps z => ⟨#[], by rw [upd_ne (ne_of_none z hd), z]; simp⟩ }
  have ok : HOk X.prog X.w (upd H dx (.xd fsV)) (PySem.W.hideAll h' [e]) := fun b o z => by
    by_cases hb2 : b = dx
    · subst hb2
      rw [upd_same] at z
      cases z
      obtain ⟨o, es, ep, ho, r⟩ := hn
      exact ⟨mA, ⟨o, es, ep, PySem.W.hideAll_get _ ho (by simpa using hne), r⟩, rel⟩
    · rw [upd_ne hb2] at z
      exact (I.hok b o z).stay (fun c v _ y => kh c v y) (fun c y => by rw [upd_ne (ne_of_none y hd)]; exact y) fun c xs y => by rw [upd_ne (ne_of_none y hd)]; exact y
  have J := I.un (t' := tk) U ok
  exact ⟨e, _, _, _, _, .ref C, some dx, rfl, J, fun b o z => PySem.W.of_hideAll _ z, PySem.W.hideAll_none _ (by simp), he, ⟨rfl, rfl⟩, rfl, rfl, by rw [upd_ne hne.symm]; exact hee, rfl, I.bare, r, q⟩
section
variable {X : Cx} {Cn lit pn qual : Str} {B newId i : String} {bmB : List Value} {fI cda cc : Addr} {params : Arguments} {body : List Stmt} {scope : Scope} {k : Nat}
theorem mk_err1 (c : ErrC X.prog X.K (He.ga X.K Cn) B newId i bmB fI cda cc qual params body scope) (f : IsErr1 qual params body scope lit pn) (tk1 : PySem.W.takerIn X.K (He.ga X.K Cn) "code" = some none) (tk2 : PySem.W.takerIn X.K (He.ga X.K Cn) pn = some none) (hr : Room 1 X.A) (rz : Raises X (.ref (He.ga X.K Cn)))
    {pins : List (Addr × Obj)} {σ : L2.St} {H : Hp} {s : Shared} {u1 : Value} {x1 : V} {QX : XK} (I : Inv X pins σ H s) (ru : RelV x1 u1) (q : ∀ dx, H dx = none → QX (.ref (He.ga X.K Cn)) (some dx) (upd H dx (.xd [(("code" : Str), V.str lit), (pn, x1)]))) :
    wpAny (model X.prog X.w) X.A (call (.ref (He.ga X.K Cn)) [u1] []) (MkP X pins σ QX) X.xe s := by
  obtain ⟨p0, p1, p2, p3, p4, q1, a0, a1, a2, a3, b0, b1, b2, b3, j, j2, rfl, ht⟩ := f.body_
  obtain ⟨ar, har, har2⟩ := f.hpa
  refine err_go (ks := []) (ws := []) c I (by rw [sizeLine_eq]; simp) fun h0 e k0 le hb he hs0 => ?_
  have bk0 : ∀ b o, X.base.get? b = some o → h0.get? b = some o := fun b o z => k0 _ _ (I.bk b o z)
  have hne : ∀ b o, s.heap.get? b = some o → b ≠ e := fun b o z => Nat.ne_of_lt (Nat.lt_of_lt_of_le (Heap.lt_size z) le)
  obtain ⟨hp, g, d, t, os⟩ := s
  refine einit1 (t := t) c tk1 tk2 f.hpn f.hdb f.hkp I.ok.mod bk0 hb he ((hr.make (k := 0) _ _ _).depth) (fun nm kV doc pm an ct => f.b1 nm kV doc pm an cda ct cc _ _) har har2 f.hks f.hkc f.hka f.hcell f.hco f.hgen f.hk (fun L => ht L fI cda cc) fun h' t1 dx tkz tkc kk ee dl dn => ?_
  refine ⟨rfl, ?_⟩
  exact lay_mk (s := ⟨hp, g, d, t, os⟩) I (fun b o z => kk b o (hne b o z) (k0 b o z)) ee dn le (Nat.le_trans hs0 dl) (relO_err ru f.hpc) rz (q dx (I.hok.fresh (Nat.le_trans hs0 dl)))
theorem mk_err0 (c : ErrC X.prog X.K (He.ga X.K Cn) B newId i bmB fI cda cc qual params body scope) (f : IsErr0 qual params body scope lit) (tk1 : PySem.W.takerIn X.K (He.ga X.K Cn) "code" = some none) (hr : Room 1 X.A) (rz : Raises X (.ref (He.ga X.K Cn)))
    {pins : List (Addr × Obj)} {σ : L2.St} {H : Hp} {s : Shared} {QX : XK} (I : Inv X pins σ H s) (q : ∀ dx, H dx = none → QX (.ref (He.ga X.K Cn)) (some dx) (upd H dx (.xd [(("code" : Str), V.str lit)]))) :
    wpAny (model X.prog X.w) X.A (call (.ref (He.ga X.K Cn)) [] []) (MkP X pins σ QX) X.xe s := by
  obtain ⟨p0, p1, p2, p3, p4, q1, a0, a1, a2, a3, j, j2, rfl, ht⟩ := f.body_
  obtain ⟨ar, har, har2⟩ := f.hpa
  refine err_go (ks := []) (ws := []) c I (by rw [sizeLine_eq]; simp) fun h0 e k0 le hb he hs0 => ?_
  have bk0 : ∀ b o, X.base.get? b = some o → h0.get? b = some o := fun b o z => k0 _ _ (I.bk b o z)
  have hne : ∀ b o, s.heap.get? b = some o → b ≠ e := fun b o z => Nat.ne_of_lt (Nat.lt_of_lt_of_le (Heap.lt_size z) le)
  obtain ⟨hp, g, d, t, os⟩ := s
  refine einit0 (t := t) c tk1 I.ok.mod bk0 hb he ((hr.make (k := 0) _ _ _).depth) (fun nm kV doc pm an ct => f.b0 nm kV doc pm an cda ct cc _) har har2 f.hks f.hkc f.hka f.hcell f.hco f.hgen f.hk (fun L => ht L fI cda cc) fun h' t1 dx tkz tkc kk ee dl dn => ?_
  refine ⟨rfl, ?_⟩
  exact lay_mk (s := ⟨hp, g, d, t, os⟩) I (fun b o z => kk b o (hne b o z) (k0 b o z)) ee dn le (Nat.le_trans hs0 dl) relO_err0 rz (q dx (I.hok.fresh (Nat.le_trans hs0 dl)))
def dRaise1 (Cn lit pn : Str) (te : TD) : TSD := fun E ds M => te ds M (E.xd ds) fun v M1 => E.xc Cn [("code", .str lit), (pn, v)] ds M1
@[simp ↓] theorem dRaise1_eq (Cn lit pn : Str) (te : TD) : ∀ E ds M, dRaise1 Cn lit pn te E ds M = (te ds M (E.xd ds) fun v M1 => E.xc Cn [("code", .str lit), (pn, v)] ds M1) := fun _ _ _ => rfl
def dRaise0 (Cn lit : Str) : TSD := fun E ds M => E.xc Cn [("code", .str lit)] ds M
@[simp ↓] theorem dRaise0_eq (Cn lit : Str) : ∀ E ds M, dRaise0 Cn lit E ds M = (E.xc Cn [("code", .str lit)] ds M) := fun _ _ _ => rfl
theorem raises_x (F : ExcF X.K (He.ga X.K Cn)) (ty : PySem.W.typeIn X.K (.ref (He.ga X.K Cn)) = some (.type "type")) : Raises X (.ref (He.ga X.K Cn)) := raises_own F.exC ty
variable {e : Expr} {te : TD} {p pos pos2 : Pos}
/-- raise C(e) -/
theorem s_raise1 (hc : X.calm = true) (c : ErrC X.prog X.K (He.ga X.K Cn) B newId i bmB fI cda cc qual params body scope) (f : IsErr1 qual params body scope lit pn) (tk1 : PySem.W.takerIn X.K (He.ga X.K Cn) "code" = some none) (tk2 : PySem.W.takerIn X.K (He.ga X.K Cn) pn = some none) (hr : Room 1 X.A) (rz : Raises X (.ref (He.ga X.K Cn)))
    (hk : PySem.W.keepIn X.K (.ref (He.ga X.K Cn)) = true) (hm : X.mg Cn = some (.ref (He.ga X.K Cn))) (ha : PD X e te) (hg : Gl X Cn := by rfl) (hdb : (Cn == ("__debug__" : Str)) = false := by decide) (he : notStar e = true := by rfl) :
    PSD X (.Raise (some (.Call (.Name Cn p) [e] [] pos)) none pos2) (dRaise1 Cn lit pn te) := by
  refine PSD.of (ts := fun W _ σ H => ∃ (F : List Addr) (ds : SD) (M : MM) (Z : XD) (Q0 : QD), Stt X.K W F H σ ds M Z ∧ te ds M Z Q0 ∧ ∀ v H' d M', Stp H (keys M) H' (keys M') → RMM X.K F H' M' → Rep X.K (ak F M') H' v d → Q0 d M' → ∀ dx, H' dx = none → W (.ref (He.ga X.K Cn)) (some dx) σ (upd H' dx (.xd [(("code" : Str), V.str lit), (pn, v)]))) (fun W tk => ?_) fun W F σ H ds M E hs kx ht => ?_
  · refine ps_raise (t := fun σ H QX => ∃ (F : List Addr) (ds : SD) (M : MM) (Z : XD) (Q0 : QD), Stt X.K W F H σ ds M Z ∧ te ds M Z Q0 ∧ ∀ v H' d M', Stp H (keys M) H' (keys M') → RMM X.K F H' M' → Rep X.K (ak F M') H' v d → Q0 d M' → ∀ dx, H' dx = none → QX (.ref (He.ga X.K Cn)) (some dx) (upd H' dx (.xd [(("code" : Str), V.str lit), (pn, v)]))) hc tk fun pins s σ H QX I h => ?_
    obtain ⟨F, ds, M, Z, Q0, hs, ht, hq⟩ := h
    refine wpAny_Call_Name_kw (ld_glob I hg hm ?_ hdb)
    refine PySem.W.callWith_K (h₀ := X.base) I.ok.mod.kin hk ?_ (star_cons he) (by rfl)
    rw [star_cons he]
    show wpAny _ _ (spliced ((false, eval e X.env) :: backTo pos (starEach [] X.env))) _ _ s
    refine Calls.spliced_cons (thn (ha.run W tk F pins s σ H ds M Z Q0 I hs ht) fun u s1 ⟨v, H1, d, M1, I1, rv, st, mm, rp, q⟩ => ?_)
    refine Calls.spliced_nil ⟨I1.kIn, ?_⟩
    exact mk_err1 c f tk1 tk2 hr rz I1 rv (fun dx hdx => hq v H1 d M1 st mm rp q dx hdx)
  · refine ⟨F, ds, M, _, _, hs.ex kx, ht, fun v H' d M' st mm rp q dx hdx => ?_⟩
    have sn : Stp H' (keys M') (upd H' dx (.xd [(("code" : Str), V.str lit), (pn, v)])) (keys M') := stp_new hdx
    exact kx Cn _ _ dx σ ds _ M' (st.trans sn) ((hs.to st mm).to sn (mm.new hdx)) upd_same (mm.notin hdx) (.cons (.str _ f.okl) (.cons (rp.step sn.fix) .nil)) q
/-- raise C() -/
theorem s_raise0 (hc : X.calm = true) (c : ErrC X.prog X.K (He.ga X.K Cn) B newId i bmB fI cda cc qual params body scope) (f : IsErr0 qual params body scope lit) (tk1 : PySem.W.takerIn X.K (He.ga X.K Cn) "code" = some none) (hr : Room 1 X.A) (rz : Raises X (.ref (He.ga X.K Cn)))
    (hk : PySem.W.keepIn X.K (.ref (He.ga X.K Cn)) = true) (hm : X.mg Cn = some (.ref (He.ga X.K Cn))) (hg : Gl X Cn := by rfl) (hdb : (Cn == ("__debug__" : Str)) = false := by decide) :
    PSD X (.Raise (some (.Call (.Name Cn p) [] [] pos)) none pos2) (dRaise0 Cn lit) := by
  refine PSD.of (ts := fun W _ σ H => ∀ dx, H dx = none → W (.ref (He.ga X.K Cn)) (some dx) σ (upd H dx (.xd [(("code" : Str), V.str lit)]))) (fun W tk => ?_) fun W F σ H ds M E hs kx ht dx hdx => ?_
  · refine ps_raise (t := fun σ H QX => ∀ dx, H dx = none → QX (.ref (He.ga X.K Cn)) (some dx) (upd H dx (.xd [(("code" : Str), V.str lit)]))) hc tk fun pins s σ H QX I h => ?_
    refine wpAny_Call_Name_kw (ld_glob I hg hm ?_ hdb)
    exact PySem.W.callWith_K0 I.kIn hk (mk_err0 c f tk1 hr rz I h)
  · have sn : Stp H (keys M) (upd H dx (.xd [(("code" : Str), V.str lit)])) (keys M) := stp_new hdx
    exact kx Cn _ _ dx σ ds _ M sn (hs.to sn (hs.mm.new hdx)) upd_same (hs.mm.notin hdx) (.cons (.str _ f.okl) .nil) ht
end
end L2.Dl

namespace L2.Dl
open PySem PySem.Spec PyProof.Rows
/-! ### try: .. except (a, b, c) as n: .. -/
/-- the context of the suite; the error is data in it -/
abbrev hand (X : Cx) (a : Addr) : Cx := { X with A := X.A.mark (some (.ref a)), calm := false, xe := fun _ _ => False }
theorem ok_hand {X : Cx} (ok : X.Ok) (a : Addr) : (hand X a).Ok :=
  ⟨ok.mod, ok.kind, ok.glob, ok.blt, ok.above, ok.inj, ok.has, ok.cab, (fun z => absurd (show false = true from z) Bool.false_ne_true), ok.frames, ok.stk, ok.exf, ok.bs, ok.bsz, ok.noex, ok.exfs, ok.funs, ok.frf⟩
section
variable {X : Cx} {pins : List (Addr × Obj)} {σ : L2.St} {H : Hp} {s : Shared}
/-- the caught error is told from now on -/
theorem Inv.tell (I : Inv X pins σ H s) {a : Addr} {oe : Obj} {vs : Array Value} (ha : s.heap.get? a = some oe) (hd : oe.data = .fields vs) (na : H a = none) (nL : a ≠ X.env.locals) (n0 : X.s_0.heap.get? a = none) (np : ∀ p ∈ X.pn ++ pins, p.1 ≠ a) :
    Inv (hand X a) pins σ (upd H a (.frz oe (.own a))) s := by
  refine ⟨ok_hand I.ok a, I.os, I.bare, ⟨I.base.keep, I.base.slot, fun b o e n hx => ?_, I.base.there, fun b xs e => ?_, fun b o u e => ?_, fun b ps e => ?_⟩, I.loc, I.cell, ?_, fun x c e => ?_, fun p hp => ?_, fun b o e => ?_, I.len⟩
  · have : b ≠ a := fun z => by rw [z, n0] at e; cases e
    rw [upd_ne this]
    exact I.base.free b o e n hx
  · have z := I.base.tups b xs e
    rw [upd_ne (ne_of_none z na)]; exact z
  · have z := I.base.frzs b o u e
    rw [upd_ne (ne_of_none z na)]; exact z
  · obtain ⟨more, z⟩ := I.base.tbls b ps e
    exact ⟨more, by rw [upd_ne (ne_of_none z na)]; exact z⟩
  · show upd H a _ X.env.locals = none
    rw [upd_ne nL.symm]; exact I.free
  · obtain ⟨v, o, ho, hc⟩ := I.cell x c e
    have : c ≠ a := fun z => by
      rw [z, ha] at ho
      cases ho
      rw [hd] at hc
      cases hc
    rw [upd_ne this]; exact I.freeC x c e
  · obtain ⟨h1, h2, h3, h4, h5⟩ := I.pin p hp
    exact ⟨h1, by rw [upd_ne (np p hp)]; exact h2, h3, h4, h5⟩
  · by_cases hb : b = a
    · subst hb
      rw [upd_same] at e
      cases e
      exact ⟨ha, ⟨_, ha⟩⟩
    · rw [upd_ne hb] at e
      exact (I.hok b o e).stay (fun c v _ q => q) (fun c q => by rw [upd_ne (ne_of_none q na)]; exact q) fun c xs q => by rw [upd_ne (ne_of_none q na)]; exact q
theorem Inv.untell {a : Addr} (I : Inv (hand X a) pins σ H s) (ok : X.Ok) : Inv X pins σ H s := ⟨ok, I.os, I.bare, I.base, I.loc, I.cell, I.free, I.freeC, I.pin, I.hok, I.len⟩
end
def wTup (K : PySem.W.Frag) (cs : List Value) (i : Nat) (ts : Addr → TS) (Wout : WX) (D : Ends) : WX := fun cls d σ H =>
  ∃ b, PySem.W.exmAny K cls cs = some b ∧ (b = true → ∀ a oe, H a = none → Zc cls d oe → (∃ vs, oe.data = .fields vs) → ts a { nx := fun σ' H' => D.nx (σ'.set i none) H', rt := D.rt, bk := fun σ' H' => D.bk (σ'.set i none) H', ct := fun σ' H' => D.ct (σ'.set i none) H' } (σ.set i (some (.ref a))) (upd H a (.frz oe (.own a)))) ∧
    (b = false → Wout cls d σ H)
theorem flying_keeps {B : Heap} {l : List Env} {e : Addr} {Z : Obj → Prop} {h h' : Heap} (f : HandSPX.FlyingZ B l e Z h) (k : ∀ b o, h.get? b = some o → h'.get? b = some o) : HandSPX.FlyingZ B l e Z h' := by
  obtain ⟨h1, h2, h3, oe, vs, T, oT, ts', he, hz, hd, t1, t2, t3, hT, t4⟩ := f
  exact ⟨fun b o z => k b o (h1 b o z), h2, Heap.FunFrames.of_keeps (fun b o e _ => ⟨o, k b o e, rfl⟩) h3, oe, vs, T, oT, ts', k _ _ he, hz, hd, t1, t2, t3, k _ _ hT, t4⟩
section
variable {X : Cx} {x1 x2 x3 n : Str} {c1 c2 c3 : Value} {i : Nat} {body suite : List Stmt} {b₀ : Stmt} {p1 p2 p3 tpos pos pos' : Pos} {kk : Nat} {tb : WX → TS} {ts : Addr → TS} {Wout : WX}
theorem ps_try_tup (hs : X.stack = X.env :: X.outer) (hf : X.env.frame = some X.env.locals) (hN : X.N.Nodup) (hi : X.N[i]? = some n) (hln : X.env.kindOf n = some .local) (n1 : Names X x1 c1) (n2 : Names X x2 c2) (n3 : Names X x3 c3) (tk : Takes X Wout) (hex : X.ex = [])
    (hb : ∀ (W : WX) (pn : List (Addr × Obj)) (xe : Value → Shared → Prop), Takes (X.tr pn xe) W → PassesOwn (model X.prog X.w) X.A X.env xe → PSs (X.tr pn xe) body (tb W))
    (hsu : ∀ (a : Addr), PSs (hand X a) (b₀ :: suite) (ts a)) :
    PS X (.Try body [.ExceptHandler (some (.Tuple [.Name x1 p1, .Name x2 p2, .Name x3 p3] kk tpos)) (some n) (b₀ :: suite) pos'] [] [] pos) (fun D σ H => tb (wTup X.K [c1, c2, c3] i ts Wout D) D σ H) := by
  refine ⟨fun pins s σ H D I h => ?_⟩
  have ok := I.ok
  have hfr : X.A.frames = some (X.env :: X.outer) := by rw [ok.frames, hs]
  have hloc : Loc X.env.scope n := .inl hln
  refine wpAny_Try_except ?_
  refine wpAny_mono ((hb (wTup X.K [c1, c2, c3] i ts Wout D) (X.pn ++ pins) (fun e s₁ => wpAny (model X.prog X.w) X.A (noteFrame e X.env) (fun _ s₂ => wpAny (model X.prog X.w) X.A (setFlight e none) (fun _ s₃ =>
    wpAny (model X.prog X.w) X.A (handleBy e X.env [.ExceptHandler (some (.Tuple [.Name x1 p1, .Name x2 p2, .Name x3 p3] kk tpos)) (some n) (b₀ :: suite) pos']) (SP X pins D) X.xe s₃) X.xe s₂) X.xe s₁) (fun u s' xx => ?_) PassesOwn.looking).run [] s σ H D (I.toTry _) h) (fun f s1 hsp => ?_) (fun e s1 he => he)
  · -- the catch
    obtain ⟨a, B, sI, pins', σ', H', cls, d, rfl, J', nb, up, sky, na, os, ag, b, hb1, hyes, hno⟩ := xx
    have J : Inv X pins σ' H' sI := J'.ofTry ok
    have sky' : Sky B (X.env :: X.outer) a (Zc cls d) X.env.locals s'.heap := by rw [← hs]; exact sky
    show wpAny (model X.prog X.w) X.A (noteFrame (.ref a) X.env) _ _ _
    refine Sky.land Zc.steady hfr hf sky' fun h3 fl3 up3 => ?_
    have J3 : Inv X pins σ' H' { s' with heap := h3 } := J.landed nb fl3.1 (up.trans up3) os ag
    obtain ⟨oe3, vs3, he3, hz3, hd3⟩ := fl3.there
    have notFr : ∀ {h : Heap} {o : Obj} {vs : Array Value}, h.FunFrames B (X.env :: X.outer) → h.get? a = some o → o.data = .fields vs → a ∉ frs (X.env :: X.outer) := fun {h o vs} ff e dd hm => by
      obtain ⟨_, o', e', hnf⟩ := ff.mem hm
      rw [e] at e'; cases e'
      exact hnf _ dd
    have nfr := notFr fl3.2.2.1 he3 hd3
    have nL : a ≠ X.env.locals := fun z => nfr (List.mem_filterMap.mpr ⟨X.env, List.mem_cons_self, by rw [hf, z]⟩)
    have nF : a ∉ X.fs := fun hm => by
      obtain ⟨e, he, q⟩ := List.mem_filterMap.mp hm
      exact nfr (List.mem_filterMap.mpr ⟨e, List.mem_cons_of_mem _ he, q⟩)
    have nI : sI.heap.get? a = none := by
      cases q : sI.heap.get? a with
      | none => rfl
      | some o =>
        have z := nb a o q (by rw [hs]; exact nfr)
        rw [fl3.2.1] at z
        cases z
    have n0 : X.s_0.heap.get? a = none := by
      cases q : X.s_0.heap.get? a with
      | none => rfl
      | some o =>
        obtain ⟨o', z⟩ := J.base.there a o q (by rw [hex]; simp)
        rw [nI] at z
        cases z
    have np : ∀ p ∈ X.pn ++ pins, p.1 ≠ a := fun p hp z => by
      have q := (J.pin p hp).1
      rw [z, nI] at q
      cases q
    have S3 := J3.suite he3 hd3 na nL nF
    refine wpAny_handleBy_cons (codeAny_handlers_test ?_) (by intro q; cases q)
    have LT : PySem.W.Looks (model X.prog X.w) h3 (typeOf (.ref a)) cls := fun A Q E s k q => wpAny_typeOf_ref (k _ _ he3) (by rw [hz3.1]; exact q)
    have test : ∀ {x : Str} {c : Value} {np : Pos}, Names X x c → ∀ {Q : Value → Shared → Prop} {E : Value → Shared → Prop}, Q c { s' with heap := h3 } → wpAny (model X.prog X.w) (X.A.mark (some (.ref a))) (eval (.Name x np) X.env) Q E { s' with heap := h3 } := fun {x c np} hc {Q E} q => by
      obtain ⟨hg, hdbg, hm | ⟨hm, hv, hnn⟩⟩ := hc
      · exact ld_glob (X := X.suite a ((a, oe3) :: (X.pn ++ pins))) S3 hg hm q hdbg
      · exact ld_blt (X := X.suite a ((a, oe3) :: (X.pn ++ pins))) S3 hg hm hv q hnn hdbg
    refine wpAny_Tuple ?_
    refine wpAny_items_cons (test n1 ?_)
    refine wpAny_items_cons (test n2 ?_)
    refine wpAny_items_cons (test n3 ?_)
    refine wpAny_items_nil ⟨by size_fits, ?_⟩
    have kp : ∀ q o, h3.get? q = some o → (h3.push { cls := .type "tuple", data := .seq [c1, c2, c3].toArray }).get? q = some o := fun _ _ z => Heap.get?_push_of_some _ z
    refine (PySem.W.exm_tup3 (J3.kIn.keeps kp) (LT.keeps kp) (Heap.get?_push_size h3 rfl) hb1).here ?_
    have fl3 := flying_keeps fl3 kp
    have up3 := up3.trans (Heap.UpToSlots.of_keeps kp)
    generalize (h3.push { cls := .type "tuple", data := .seq [c1, c2, c3].toArray }) = h3' at fl3 up3 ⊢
    cases b with
    | true =>
      refine codeAny_handlers_suite_as ?_
      refine HandSPX.lands_againZ fl3 fun h4 fl4 up4 => ?_
      have J4 : Inv X pins σ' H' { s' with heap := h4 } := J.landed nb fl4.1 ((up.trans up3).trans up4) os ag
      obtain ⟨oe4, vs4, he4, hz4, hd4⟩ := fl4.there
      have S4 := Inv.tell J4 he4 hd4 na nL n0 np
      refine store_ok (X := hand X a) (v := .ref a) S4 hN hi hloc rfl (fun s5 S5 => ?_) (.inr hln)
      refine wpAny_mono ((hsu a).run pins s5 _ _ _ S5 (hyes rfl a oe4 na hz4 ⟨_, hd4⟩)) (fun f s6 hsp => ?_) (fun _ _ z => False.elim z)
      have end_ : ∀ {σ6 : L2.St} {H6 : Hp} {Q : Shared → Prop}, Inv (hand X a) pins σ6 H6 s6 → (∀ s7, Inv X pins (σ6.set i none) H6 s7 → Q s7) →
          wpAny (model X.prog X.w) X.A (do bindName X.env n .none; unbindBehindTheSuite X.env n pos') (fun _ s7 => Q s7) X.xe s6 := fun {σ6 H6 Q} S6 hq => gone_ok (Inv.untell S6 ok) hN hi hln hq
      cases f with
      | next =>
        obtain ⟨σ6, H6, S6, q6⟩ := hsp
        exact end_ S6 fun s7 J7 => ⟨_, _, J7, q6⟩
      | brk =>
        obtain ⟨σ6, H6, S6, q6⟩ := hsp
        exact end_ S6 fun s7 J7 => ⟨_, _, J7, q6⟩
      | cont =>
        obtain ⟨σ6, H6, S6, q6⟩ := hsp
        exact end_ S6 fun s7 J7 => ⟨_, _, J7, q6⟩
      | ret u =>
        obtain ⟨v6, σ6, H6, S6, r6, q6⟩ := hsp
        exact end_ S6 fun s7 J7 => ⟨_, _, _, J7, r6, q6⟩
    | false =>
      show wpAny _ X.A (handleBy (.ref a) X.env []) _ _ _
      refine wpAny_handleBy_nil ?_
      obtain ⟨k1, k2, k3, oe, vs, T, oT, ts', he, hz, hd, h1, hr⟩ := id fl3
      unfold PySem.passOn
      refine wpAny_bind (wpAny_field he hd h1 ?_)
      rw [if_neg (show ¬ ((Value.ref T == Value.none) = true) from by simp)]
      have fin : wpAny (model X.prog X.w) X.A (setFlight (.ref a) X.env.frame) (fun _ s4 => wpAny (model X.prog X.w) X.A (throw (.ref a) : Sem Flow) (SP X pins D) X.xe s4) X.xe { s' with heap := h3' } := by
        rw [hf]
        refine HandSPX.setFlight_upZ fl3 fun h4 hh4 up4 => wpAny_throw (tk _ _ ?_)
        exact ⟨a, B, sI, pins, σ', H', cls, d, rfl, J, nb, (up.trans up3).trans up4, .inr (.inr (by rw [hs]; exact hh4)), na, os, ag, hno rfl⟩
      first
        | exact wpAny_bind (wpAny_pure (wpAny_bind fin))
        | exact wpAny_bind fin
  · cases f with
    | next =>
      obtain ⟨σ', H', J', q⟩ := hsp
      exact wpAny_execs_nil ⟨σ', H', J'.ofTry ok, q⟩
    | brk =>
      obtain ⟨σ', H', J', q⟩ := hsp
      exact ⟨σ', H', J'.ofTry ok, q⟩
    | cont =>
      obtain ⟨σ', H', J', q⟩ := hsp
      exact ⟨σ', H', J'.ofTry ok, q⟩
    | ret u =>
      obtain ⟨v, σ', H', J', r, q⟩ := hsp
      exact ⟨v, σ', H', J'.ofTry ok, r, q⟩
end
end L2.Dl

namespace L2.Dl
open PySem PySem.Spec PyProof.Rows
/-! ### try, by data -/
theorem RSl.unset {K : PySem.W.Frag} {B : List Addr} {H : Hp} {σ : L2.St} {ds : SD} (h : RSl K B H σ ds) (i : Nat) : RSl K B H (σ.set i none) (ds.set i none) := by
  refine ⟨by simp [h.len], fun j d e => ?_⟩
  by_cases q : i = j
  · subst q
    by_cases hl : i < ds.length
    · rw [List.getElem?_set_self hl] at e; cases e
    · rw [List.getElem?_eq_none (by simpa using hl)] at e; cases e
  · rw [List.getElem?_set_ne q] at e
    obtain ⟨w, h1, h2⟩ := h.at_ j d e
    exact ⟨w, by rw [List.getElem?_set_ne q]; exact h1, h2⟩
def dTry (i : Nat) (okC : Str → Bool) (tb ts : TSD) : TSD := fun E ds M => tb { nx := E.nx, rt := E.rt, bk := E.bk, ct := E.ct, xc := fun C fs ds' M' => okC C = true ∧ ts { nx := fun ds2 M2 => E.nx (ds2.set i none) M2, rt := E.rt, bk := fun ds2 M2 => E.bk (ds2.set i none) M2, ct := fun ds2 M2 => E.ct (ds2.set i none) M2 } (ds'.set i (some (.exn C fs))) M' } ds M
@[simp ↓] theorem dTry_eq (i : Nat) (okC : Str → Bool) (tb ts : TSD) : ∀ E ds M, dTry i okC tb ts E ds M = (tb { nx := E.nx, rt := E.rt, bk := E.bk, ct := E.ct, xc := fun C fs ds' M' => okC C = true ∧ ts { nx := fun ds2 M2 => E.nx (ds2.set i none) M2, rt := E.rt, bk := fun ds2 M2 => E.bk (ds2.set i none) M2, ct := fun ds2 M2 => E.ct (ds2.set i none) M2 } (ds'.set i (some (.exn C fs))) M' } ds M) := fun _ _ _ => rfl
section
variable {X : Cx} {x1 x2 x3 n : Str} {c1 c2 c3 : Value} {i : Nat} {body suite : List Stmt} {b₀ : Stmt} {p1 p2 p3 tpos pos pos' : Pos} {kk : Nat} {tb ts : TSD} {okC : Str → Bool}
theorem s_try3 (hs : X.stack = X.env :: X.outer) (hf : X.env.frame = some X.env.locals) (hN : X.N.Nodup) (hi : X.N[i]? = some n) (hln : X.env.kindOf n = some .local) (n1 : Names X x1 c1) (n2 : Names X x2 c2) (n3 : Names X x3 c3) (hex : X.ex = [])
    (hx : ∀ C, okC C = true → PySem.W.exmAny X.K (.ref (He.ga X.K C)) [c1, c2, c3] = some true)
    (hb : ∀ (pn : List (Addr × Obj)) (xe : Value → Shared → Prop), PassesOwn (model X.prog X.w) X.A X.env xe → PSsD (X.tr pn xe) body tb) (hsu : ∀ a : Addr, PSsD (hand X a) (b₀ :: suite) ts) :
    PSD X (.Try body [.ExceptHandler (some (.Tuple [.Name x1 p1, .Name x2 p2, .Name x3 p3] kk tpos)) (some n) (b₀ :: suite) pos'] [] [] pos) (dTry i okC tb ts) := by
  refine PSD.of (fun W tk => ps_try_tup (Wout := W) (tb := fun W' => tsOf X.K W' tb) (ts := fun a => tsOf X.K (fun _ _ _ _ => False) ts) hs hf hN hi hln n1 n2 n3 tk hex (fun W' pn xe tk' po => (hb pn xe po).ps tk') fun a => (hsu a).ps takes_none5) fun W F σ H ds M E hst kx ht => ?_
  refine ⟨F, ds, M, _, hst, ht, KS.es, KQ.eq, KS.es, KS.es, ?_⟩
  intro C fs vs d σ' ds' H' M' st tt e n r q
  refine ⟨true, hx C q.1, fun _ a oe ha hz hf => ?_, fun h => nomatch h⟩
  have sn : Stp H' (keys M') (upd H' a (.frz oe (.own a))) (keys M') := stp_new ha
  have nd : d ≠ a := ne_of_none e ha
  have rx : Rep X.K (ak F M') (upd H' a (.frz oe (.own a))) (.ref a) (.exn C fs) := .exn (tt.mm.notin ha) upd_same hz hf n (by rw [upd_ne nd]; exact e) (r.step sn.fix)
  refine ⟨F, _, M', _, ⟨tt.mm.new ha, (tt.sl.step sn.fix).put rx⟩, q.2, ?_, ?_, ?_, ?_, ?_⟩
  · exact fun σ2 H2 ds2 M2 st2 tt2 q2 => ⟨_, M2, (st.trans sn).trans st2, ⟨tt2.mm, tt2.sl.unset i⟩, q2⟩
  · exact fun v H2 d2 M2 st2 mm2 rp2 q2 => ⟨d2, M2, (st.trans sn).trans st2, mm2, rp2, q2⟩
  · exact fun σ2 H2 ds2 M2 st2 tt2 q2 => ⟨_, M2, (st.trans sn).trans st2, ⟨tt2.mm, tt2.sl.unset i⟩, q2⟩
  · exact fun σ2 H2 ds2 M2 st2 tt2 q2 => ⟨_, M2, (st.trans sn).trans st2, ⟨tt2.mm, tt2.sl.unset i⟩, q2⟩
  · exact fun C2 fs2 vs2 d2 σ2 ds2 H2 M2 st2 tt2 e2 n2 r2 q2 => q2.elim
end
/-! ### what lambdas do -/
abbrev Mean := (Unit → Obj) → MM → XD → QD → Prop
/-- what a lambda (an action) of someone's does when it is called -/
def Acts (P : Program) (w : World) (K : PySem.W.Frag) (mg : Str → Option Value) (base : Heap) (kk : Nat) (vs0 : List V) (ds0 : List D) (mean : Mean) : Prop :=
  ∀ (A : Around) (outer : List Env) (s1 : Shared) (H1 : Hp) (F : List Addr) (f : Addr) (o : Unit → Obj) (M : MM) (Z : XD) (QD : QD) (Q : VK) (E : XK), Room kk A → Env0 P w K mg base A outer s1 H1 → RMM K F H1 M → Rep K (ak F M) H1 (.ref f) (.act o vs0 ds0) →
    mean o M Z QD → KQ K F H1 M QD Q → KX K F H1 M Z E → codeAny (model P w) A (.call (.ref f) ⟨[], []⟩) (CR (L2.CX P w) outer P w H1 s1 Q E) s1
abbrev SpA := List V → List D → Mean → SpD
section
variable {X : Cx} {kk : Nat} {vs0 : List V} {ds0 : List D} {mean : Mean}
/-- x(), x a local that has a lambda -/
def dAct (mean : Mean) (vs0 : List V) (ds0 : List D) (i : Nat) : TD := fun ds M Z Q => slotK ds[i]? fun d => ∃ o, d = .act o vs0 ds0 ∧ mean o M Z Q
@[simp ↓] theorem dAct_eq (mean : Mean) (vs0 : List V) (ds0 : List D) (i : Nat) : ∀ ds M Z Q, dAct mean vs0 ds0 i ds M Z Q = (slotK ds[i]? fun d => ∃ o, d = .act o vs0 ds0 ∧ mean o M Z Q) := fun _ _ _ _ => rfl
theorem d_act (i : Nat) {x : Str} {p1 p2 : Pos} (hr : Room kk X.A) (ac : Acts X.prog X.w X.K X.mg X.base kk vs0 ds0 mean) (hN : X.N[i]? = some x := by rfl) (hv : Vis X.env.scope x := by first | exact Or.inl rfl | exact Or.inr (Or.inl rfl) | exact Or.inr (Or.inr rfl)) (hd : (x == ("__debug__" : Str)) = false := by decide)
    (hcd : (x == ("__classdict__" : Str)) = false := by decide) : PD X (.Call (.Name x p1) [] [] p2) (dAct mean vs0 ds0 i) := by
  refine ⟨fun W tk F pins s σ H ds M Z Q I hs ht => ?_⟩
  unfold dAct slotK at ht
  split at ht
  · rename_i d0 e
    obtain ⟨o, rfl, ht⟩ := ht
    obtain ⟨v, h1, h2⟩ := hs.sl.at_ i _ e
    cases h2 with
    | act hl hrs =>
      rename_i f
      refine wpAny_Call_Name_kw (thn ((pe_var (pos := p1) (i := i) hN hv hd hcd).run pins s σ H (fun v H1 => v = .ref f ∧ H1 = H) I ⟨.ref f, h1, rfl, rfl⟩) fun u s1 ⟨v, H1, I1, r1, q1⟩ => ?_)
      obtain ⟨rfl, rfl⟩ := q1
      obtain rfl : u = Value.ref f := r1
      obtain ⟨n1, e1, fd, c, e2, e3, n2, e4, e5⟩ := hl
      have of1 : s1.heap.get? f = some (o ()) := (I1.hok f _ e1).1
      have fa : PySem.W.FnAt f s1.heap := by
        generalize o () = ob at of1 e2
        obtain ⟨a1, a2, a3, a4⟩ := ob
        have e2 : a3 = .func fd := e2
        subst e2
        exact ⟨_, _, _, _, of1⟩
      refine PySem.W.callWith_F0 fa ?_
      have rc := ac X.A X.stack s1 H1 F f o M Z Q _ (WE W σ) hr I1.env0 hs.mm (.act ⟨n1, e1, fd, c, e2, e3, n2, e4, e5⟩ hrs) ht KQ.eq (fun C fs vs d H' M' st mm e n r q => hs.kx C fs vs d H' M' st mm e n r q)
      refine wpAny_call (codeAny_mono rc fun r s' hq => ?_)
      cases r with
      | error e => exact passAt tk σ pins H1 s1 e s' I1 hq
      | ok fl =>
        cases fl with
        | ret u =>
          obtain ⟨v, H', I', rv, d, M', st, m2, rp, q⟩ := I1.after hq
          exact ⟨v, H', d, M', I', rv, st, m2, rp, q⟩
        | next => exact False.elim hq
        | brk => exact False.elim hq
        | cont => exact False.elim hq
  · exact ht.elim
end
end L2.Dl

namespace L2.Dl
open PySem PySem.Spec PyProof.Rows
/-! ### lambdas made -/
/-- what a law's lambdas are: the table, the code objects' name, the objects of each lambda -/
structure Lmx where
  P : Addr
  q : Str
  R : Nat → (Unit → Obj) → Prop
abbrev lamFn (q : Str) (params : Arguments) (body : Expr) (scope : Scope) (cl : List (Str × Addr)) (dV doc pm : Value) (c : Addr) (ct : Value) : Obj := PySem.W.kdv_obj "<lambda>" q params (.expr body) scope cl dV doc pm c ct
/-- the objects of a lambda that X makes -/
def lamR (X : Cx) (params : Arguments) (body : Expr) (scope : Scope) (o : Unit → Obj) : Prop := ∃ dV doc pm c ct, o () = lamFn (X.env.qual ++ "<lambda>") params body scope (cloFrom X.env.cells scope.names []) dV doc pm c ct ∧ (params.defaults.isEmpty = true → dV = .none) ∧ (params.defaults.isEmpty = false → ∃ t, dV = .ref t)
theorem mem_lookup_nd {M : MM} {a : Addr} {mo mo' : MO} (nd : (keys M).Nodup) (h1 : (a, mo) ∈ M) (h2 : M.lookup a = some mo') : mo = mo' := by
  induction M with
  | nil => cases h1
  | cons p r ih =>
    obtain ⟨b, mb⟩ := p
    have nd2 := List.nodup_cons.mp (show (b :: keys r).Nodup from nd)
    by_cases hb : a = b
    · subst hb
      rw [look_cons] at h2
      cases h2
      rcases List.mem_cons.mp h1 with e | h1
      · cases e; rfl
      · exact absurd (List.mem_map.mpr ⟨_, h1, rfl⟩) nd2.1
    · have e : (a == b) = false := by simpa using hb
      simp only [List.lookup, e] at h2
      rcases List.mem_cons.mp h1 with e | h1
      · cases e; exact absurd rfl hb
      · exact ih nd2.2 h1 h2
section
variable {X : Cx} {pins : List (Addr × Obj)} {σ : L2.St} {H : Hp} {s : Shared} {F : List Addr} {M : MM} {c P : Addr} {q : Str} {params : Arguments} {body : Expr} {scope : Scope}
theorem lam_tail {dV : Value} {pos : Pos} {ln : Nat} {Q E : Value → Shared → Prop} (I : Inv X pins σ H s) (mm : RMM X.K F H M) (hm : M.lookup P = some (.tab (X.env.qual ++ "<lambda>"))) (TB : LamX.TabB X.base X.mg c P) (hcode : X.env.code = .ref c)
    (hfree : ∀ y ∈ scope.names, y.2 = .free → ∃ c, X.env.cells.lookup y.1 = some c) (hdv : dV = .none ∨ ∃ t v, dV = .ref t ∧ t ∉ ak F M ∧ H t = some (.frz (PySem.W.kdv_tup [v]) (.own t)))
    (h : ∀ (f : Addr) (o : Unit → Obj) (H1 : Hp) (s' : Shared), Inv X pins σ H1 s' → Stp H (keys M) H1 (keys M) → RMM X.K F H1 M → Rep X.K (ak F M) H1 (.ref f) (.act o [] []) → (∃ doc pm c' ctv, o () = lamFn (X.env.qual ++ "<lambda>") params body scope (cloFrom X.env.cells scope.names []) dV doc pm c' ctv) → Q (.ref f) s') :
    wpAny (model X.prog X.w) X.A (makeTail "<lambda>" (X.env.qual ++ "<lambda>") params (.expr body) scope X.env dV .none none pos ln) Q E s := by
  obtain ⟨ps, hP, ht, ha⟩ := mm.get hm
  have kP : P ∈ keys M := lookup_key hm
  have bP : s.heap.BuiltinsAt X.mg P := TB.bm.keeps I.bk
  have hP' : s.heap.get? P = some { cls := .none, data := .fields ps } := I.hok P _ hP
  cases hc : codeAmong pos ps.toList with
  | none =>
    refine PySem.W.kdv_makeTail (mg := X.mg) (c := c) (P := P) (ps := ps) (closure_ok hfree) I.ok.glob (I.mod.glob.keeps I.bk) hcode (TB.code.keeps I.bk) hP' ht hc TB.gP bP fun c' ctv doc h' tk hx hge hlt hrec htb => ?_
    obtain ⟨c2, oc, vs, t, e2, hoc, hd, hv⟩ := hrec
    cases e2
    have hsz : s.heap.objs.size ≤ h'.objs.size := Nat.le_trans hge (Nat.le_of_lt hlt)
    have nC : H c' = none := I.hok.fresh hge
    have nF : H h'.objs.size = none := I.hok.fresh hsz
    have nPc : P ≠ c' := ne_of_none hP nC
    have nPf : P ≠ h'.objs.size := ne_of_none hP nF
    have nfc : h'.objs.size ≠ c' := Nat.ne_of_gt hlt
    have I1 := LamX.inv_table (q := X.env.qual ++ "<lambda>") (t' := tk) (more := #[rawInt pos.line, rawInt pos.col, .ref c']) (h' := h') I hP (fun b o hb e => hx b o hb e) htb hge ⟨oc, vs, t, hoc, hd, hv⟩
    have I2 := I1.laid (a := h'.objs.size) (o := .frz (lamFn (X.env.qual ++ "<lambda>") params body scope (cloFrom X.env.cells scope.names []) dV doc ((X.mg "__name__").getD .none) c' ctv) (.own h'.objs.size)) (t' := tk) (h' := h'.push (lamFn (X.env.qual ++ "<lambda>") params body scope (cloFrom X.env.cells scope.names []) dV doc ((X.mg "__name__").getD .none) c' ctv)) (fun b u e => Heap.get?_push_of_some _ e) (Nat.le_refl _) ⟨Heap.get?_push_size _ rfl, ⟨_, Heap.get?_push_size _ rfl⟩⟩
    have eL : (ps ++ #[rawInt pos.line, rawInt pos.col, .ref c']).toList = ps.toList ++ [rawInt pos.line, rawInt pos.col, .ref c'] := by simp
    have keep : ∀ b o, b ≠ P → H b = some o → upd (upd (upd H P (.tbl (ps ++ #[rawInt pos.line, rawInt pos.col, .ref c']))) c' (LamX.CodeO c' (X.env.qual ++ "<lambda>"))) h'.objs.size (.frz (lamFn (X.env.qual ++ "<lambda>") params body scope (cloFrom X.env.cells scope.names []) dV doc ((X.mg "__name__").getD .none) c' ctv) (.own h'.objs.size)) b = some o := fun b o hb e => by
      rw [upd_ne (ne_of_none e nF), upd_ne (ne_of_none e nC), upd_ne hb]
      exact e
    have st : Stp H (keys M) _ (keys M) := ⟨fun b o hb e => keep b o (fun z => hb (z ▸ kP)) e, fun b hb => .inl hb⟩
    have cc : upd (upd (upd H P (.tbl (ps ++ #[rawInt pos.line, rawInt pos.col, .ref c']))) c' (LamX.CodeO c' (X.env.qual ++ "<lambda>"))) h'.objs.size (.frz (lamFn (X.env.qual ++ "<lambda>") params body scope (cloFrom X.env.cells scope.names []) dV doc ((X.mg "__name__").getD .none) c' ctv) (.own h'.objs.size)) c' = some (LamX.CodeO c' (X.env.qual ++ "<lambda>")) := by
      rw [upd_ne nfc.symm, upd_same]
    refine h h'.objs.size (fun _ => lamFn (X.env.qual ++ "<lambda>") params body scope (cloFrom X.env.cells scope.names []) dV doc ((X.mg "__name__").getD .none) c' ctv) _ _ I2 st ⟨mm.nd, fun a mo hma => ?_, fun f' hf' => ?_⟩ (.act ⟨mm.notin nF, upd_same, _, c', rfl, rfl, mm.notin nC, cc, ?_⟩ .nil) ⟨_, _, _, _, rfl⟩
    · by_cases hap : a = P
      · subst hap
        cases mem_lookup_nd mm.nd hma hm
        refine ⟨_, by rw [upd_ne nPf, upd_ne nPc, upd_same], by rw [eL]; exact PySem.TriplesOk_snoc _ _ _ _ ht, fun p' cv hcv => ?_⟩
        rw [eL] at hcv
        rcases LamX.among_app _ ht hcv with z | z
        · obtain ⟨c0, e1, e2, e3⟩ := ha p' cv z
          exact ⟨c0, e1, e2, keep _ _ (fun z => e2 (z ▸ List.mem_append_left _ kP)) e3⟩
        · exact ⟨c', z, mm.notin nC, cc⟩
      · have r := mm.at_ a mo hma
        obtain ⟨u, e⟩ := r.some
        exact r.step st.fix ((keep a u hap e).trans e.symm)
    · obtain ⟨h1, u, e⟩ := mm.fd f' hf'
      exact ⟨h1, u, keep _ _ (fun z => h1 (z ▸ kP)) e⟩
    · rcases hdv with z | ⟨t, v, e1, e2, e3⟩
      · exact .inl z
      · exact .inr ⟨t, v, e1, e2, keep _ _ (fun z => e2 (z ▸ List.mem_append_left _ kP)) e3⟩
  | some cv =>
    obtain ⟨c', e, hcb, hco⟩ := ha pos cv hc
    subst e
    refine PySem.W.kdv_makeTailHit (mg := X.mg) (c := c) (P := P) (ps := ps) (closure_ok hfree) I.ok.glob (I.mod.glob.keeps I.bk) hcode (TB.code.keeps I.bk) hP' ht hc bP fun ctv doc h' tk hx hsz => ?_
    have nF : H h'.objs.size = none := I.hok.fresh hsz
    have I2 := I.laid (a := h'.objs.size) (o := .frz (lamFn (X.env.qual ++ "<lambda>") params body scope (cloFrom X.env.cells scope.names []) dV doc ((X.mg "__name__").getD .none) c' ctv) (.own h'.objs.size)) (t' := tk) (h' := h'.push (lamFn (X.env.qual ++ "<lambda>") params body scope (cloFrom X.env.cells scope.names []) dV doc ((X.mg "__name__").getD .none) c' ctv)) (fun b u e => Heap.get?_push_of_some _ (hx b u e)) hsz ⟨Heap.get?_push_size _ rfl, ⟨_, Heap.get?_push_size _ rfl⟩⟩
    have st : Stp H (keys M) (upd H h'.objs.size (.frz (lamFn (X.env.qual ++ "<lambda>") params body scope (cloFrom X.env.cells scope.names []) dV doc ((X.mg "__name__").getD .none) c' ctv) (.own h'.objs.size))) (keys M) := stp_new nF
    refine h h'.objs.size (fun _ => lamFn (X.env.qual ++ "<lambda>") params body scope (cloFrom X.env.cells scope.names []) dV doc ((X.mg "__name__").getD .none) c' ctv) _ _ I2 st (mm.new nF) (.act ⟨mm.notin nF, upd_same, _, c', rfl, rfl, hcb, (st.fix (F := F) _ _ hcb hco).2, ?_⟩ .nil) ⟨_, _, _, _, rfl⟩
    rcases hdv with z | ⟨t, v, e1, e2, e3⟩
    · exact .inl z
    · exact .inr ⟨t, v, e1, e2, (st.fix (F := F) _ _ e2 e3).2⟩
def dLam (Lx : Lmx) (n : Nat) : TD := fun ds M Z Q => M.lookup Lx.P = some (.tab Lx.q) ∧ ∀ o, Lx.R n o → Q (.act o [] []) M
@[simp ↓] theorem dLam_eq (Lx : Lmx) (n : Nat) : ∀ ds M Z Q, dLam Lx n ds M Z Q = (M.lookup Lx.P = some (.tab Lx.q) ∧ ∀ o, Lx.R n o → Q (.act o [] []) M) := fun _ _ _ _ => rfl
theorem makeF_eq {dV : Value} {A : Around} {Q E : Value → Shared → Prop} {env : Env} {dv : List Value} {pos : Pos} {ln : Nat} (hne : dv.isEmpty = false) (h : wpAny (model X.prog X.w) A (makeTail "<lambda>" q params (.expr body) scope env (.ref s.heap.objs.size) .none none pos ln) Q E { s with heap := s.heap.push (PySem.W.kdv_tup dv) }) :
    wpAny (model X.prog X.w) A (makeFunction "<lambda>" q params (.expr body) scope env dv [] [] pos ln) Q E s := by
  rw [makeFunction_eq]
  simp only [List.zip_nil_right, List.filterMap_nil, List.isEmpty_nil, if_true, pure_bind, hne, Bool.false_eq_true, if_false]
  exact wpAny_bind (wpAny_newTextTuple h)
theorem makeF0_eq {A : Around} {Q E : Value → Shared → Prop} {env : Env} {pos : Pos} {ln : Nat} (h : wpAny (model X.prog X.w) A (makeTail "<lambda>" q params (.expr body) scope env .none .none none pos ln) Q E s) :
    wpAny (model X.prog X.w) A (makeFunction "<lambda>" q params (.expr body) scope env [] [] [] pos ln) Q E s := by
  rw [makeFunction_eq]
  simp only [List.zip_nil_right, List.filterMap_nil, List.isEmpty_nil, if_true, pure_bind]
  exact h
variable {Lx : Lmx} {n : Nat} {pos : Pos}
/-- lambda: e -/
theorem d_lam0 (n : Nat) (TB : LamX.TabB X.base X.mg c Lx.P) (hcode : X.env.code = .ref c) (hq : Lx.q = X.env.qual ++ "<lambda>") (hR : ∀ o, lamR X params body scope o → Lx.R n o) (hfree : ∀ y ∈ scope.names, y.2 = .free → X.env.scope.names.lookup y.1 = some .cell ∨ X.env.scope.names.lookup y.1 = some .free)
    (hdef : defaultsOf params X.env = ([], []) := by rfl) (hde : params.defaults.isEmpty = true := by rfl) : PD X (.Lambda params body scope pos) (dLam Lx n) := by
  refine ⟨fun W tk F pins s σ H ds M Z Q I hs ht => ?_⟩
  have hf : ∀ y ∈ scope.names, y.2 = .free → ∃ c, X.env.cells.lookup y.1 = some c := fun y hy e => by
    rcases hfree y hy e with k | k
    · exact I.ok.has _ (.inl k)
    · exact I.ok.has _ (.inr k)
  refine PySem.W.kla_eval hdef (makeF0_eq (lam_tail I hs.mm (by rw [ht.1, hq]) TB hcode hf (.inl rfl) fun f o H1 s' I1 st m1 rp ⟨doc, pm, c', ctv, e⟩ => ?_))
  exact ⟨.ref f, H1, _, M, I1, rfl, st, m1, rp, ht.2 o (hR o ⟨_, _, _, _, _, e, fun _ => rfl, fun z => by rw [hde] at z; cases z⟩)⟩
/-- lambda x=0: e -/
theorem d_lam1 (n : Nat) {i : Int} {j : Nat} {p0 : Pos} (TB : LamX.TabB X.base X.mg c Lx.P) (hcode : X.env.code = .ref c) (hq : Lx.q = X.env.qual ++ "<lambda>") (hR : ∀ o, lamR X params body scope o → Lx.R n o) (hfree : ∀ y ∈ scope.names, y.2 = .free → X.env.scope.names.lookup y.1 = some .cell ∨ X.env.scope.names.lookup y.1 = some .free)
    (hdef : params.defaults = [.Constant (.int i) j p0] := by rfl) (hkd : params.kw_defaults = [] := by rfl) : PD X (.Lambda params body scope pos) (dLam Lx n) := by
  refine ⟨fun W tk F pins s σ H ds M Z Q I hs ht => ?_⟩
  have hde : params.defaults.isEmpty = false := by rw [hdef]; rfl
  have hf : ∀ y ∈ scope.names, y.2 = .free → ∃ c, X.env.cells.lookup y.1 = some c := fun y hy e => by
    rcases hfree y hy e with k | k
    · exact I.ok.has _ (.inl k)
    · exact I.ok.has _ (.inr k)
  refine PySem.W.kdv_lam hde hkd ?_
  rw [hdef]
  refine PySem.W.kdv_all1 (wpAny_Constant_int (PySem.W.kdv_all0 (makeF_eq (dV := .none) rfl ?_)))
  have I0 := I.tok (s.toks + 1)
  have hT : H s.heap.objs.size = none := I.hok.fresh (Nat.le_refl _)
  have I1 := I0.laid (a := s.heap.objs.size) (o := .frz (PySem.W.kdv_tup [.int i s.toks]) (.own s.heap.objs.size)) (t' := s.toks + 1) (h' := s.heap.push (PySem.W.kdv_tup [.int i s.toks])) (fun b u e => Heap.get?_push_of_some _ e) (Nat.le_refl _) ⟨Heap.get?_push_size _ rfl, ⟨_, Heap.get?_push_size _ rfl⟩⟩
  have s1 : Stp H (keys M) (upd H s.heap.objs.size (.frz (PySem.W.kdv_tup [.int i s.toks]) (.own s.heap.objs.size))) (keys M) := stp_new hT
  refine lam_tail I1 (hs.mm.new hT) (by rw [ht.1, hq]) TB hcode hf (.inr ⟨_, _, rfl, hs.mm.notin hT, upd_same⟩) fun f o H1 s' I1 st m1 rp ⟨doc, pm, c', ctv, e⟩ => ?_
  exact ⟨.ref f, H1, _, M, I1, rfl, s1.trans st, m1, rp, ht.2 o (hR o ⟨_, _, _, _, _, e, (fun z => by rw [hde] at z; cases z), fun _ => ⟨_, rfl⟩⟩)⟩
end
end L2.Dl

namespace L2.Dl
open PySem PySem.Spec PyProof.Rows
/-! ### the maker's slots as they go with its lambdas -/
def vsOf : L2.St → SD → List V
  | some v :: σ, some _ :: ds => v :: vsOf σ ds
  | _ :: σ, _ :: ds => vsOf σ ds
  | _, _ => []
def known : SD → List D
  | some d :: ds => d :: known ds
  | none :: ds => known ds
  | [] => []
theorem RSl.flat {K : PySem.W.Frag} {B : List Addr} {H : Hp} : ∀ {σ : L2.St} {ds : SD}, RSl K B H σ ds → RepA K B H (vsOf σ ds) (known ds)
  | [], [], _ => .nil
  | [], _ :: _, h => by cases h.len
  | _ :: _, [], h => by cases h.len
  | o :: σ, none :: ds, h => by
    have t : RSl K B H σ ds := ⟨Nat.succ.inj h.len, fun i d e => h.at_ (i + 1) d (by simpa using e)⟩
    have := RSl.flat t
    cases o <;> exact this
  | o :: σ, some d :: ds, h => by
    have t : RSl K B H σ ds := ⟨Nat.succ.inj h.len, fun i d e => h.at_ (i + 1) d (by simpa using e)⟩
    obtain ⟨v, e1, e2⟩ := h.at_ 0 d rfl
    have e1 : some o = some (some v) := e1
    cases e1
    exact .cons e2 (RSl.flat t)
theorem RSl.unflat {K K' : PySem.W.Frag} {B B' : List Addr} {H H' : Hp} : ∀ {σ : L2.St} {ds : SD}, RSl K B H σ ds → RepA K' B' H' (vsOf σ ds) (known ds) → RSl K' B' H' σ ds
  | [], [], _, _ => ⟨rfl, fun i d e => by simp at e⟩
  | [], _ :: _, h, _ => by cases h.len
  | _ :: _, [], h, _ => by cases h.len
  | o :: σ, none :: ds, h, r => by
    have t : RSl K B H σ ds := ⟨Nat.succ.inj h.len, fun i d e => h.at_ (i + 1) d (by simpa using e)⟩
    have r : RepA K' B' H' (vsOf σ ds) (known ds) := by cases o <;> exact r
    have q := RSl.unflat t r
    refine ⟨h.len, fun i d e => ?_⟩
    cases i with
    | zero => simp at e
    | succ i => exact q.at_ i d (by simpa using e)
  | o :: σ, some d :: ds, h, r => by
    have t : RSl K B H σ ds := ⟨Nat.succ.inj h.len, fun i d e => h.at_ (i + 1) d (by simpa using e)⟩
    obtain ⟨v, e1, e2⟩ := h.at_ 0 d rfl
    have e1 : some o = some (some v) := e1
    cases e1
    cases r with
    | cons r0 r =>
      have q := RSl.unflat t r
      refine ⟨h.len, fun i d e => ?_⟩
      cases i with
      | zero => simp at e; subst e; exact ⟨v, rfl, r0⟩
      | succ i => exact q.at_ i d (by simpa using e)
/-- the slots are put to a lambda -/
def lift1 (vs0 : List V) (ds0 : List D) : D → D
  | .act o _ _ => .act o vs0 ds0
  | d => d
def liftD (vs0 : List V) (ds0 : List D) : D → D
  | .act o _ _ => .act o vs0 ds0
  | .lst xs => .lst (xs.map (lift1 vs0 ds0))
  | d => d
theorem Rep.lift1 {K : PySem.W.Frag} {B : List Addr} {H : Hp} {vs0 : List V} {ds0 : List D} (r0 : RepA K B H vs0 ds0) {v : V} {d : D} (r : Rep K B H v d) : Rep K B H v (lift1 vs0 ds0 d) := by
  cases r with
  | act h _ => exact .act h r0
  | non => exact .non
  | bl b => exact .bl b
  | int i => exact .int i
  | str x h => exact .str x h
  | ty n => exact .ty n
  | lst h r => exact .lst h r
  | tup h r => exact .tup h r
  | obj h1 h2 r => exact .obj h1 h2 r
  | exn h1 h2 h3 h4 h5 h6 r => exact .exn h1 h2 h3 h4 h5 h6 r
  | dK h1 h2 r => exact .dK h1 h2 r
  | dT h1 h2 r => exact .dT h1 h2 r
  | ref a => exact .ref a
  | glo x => exact .glo x
  | scr h => exact .scr h
theorem RepA.lift1 {K : PySem.W.Frag} {B : List Addr} {H : Hp} {vs0 : List V} {ds0 : List D} (r0 : RepA K B H vs0 ds0) {vs : List V} {ds : List D} (r : RepA K B H vs ds) : RepA K B H vs (ds.map (Dl.lift1 vs0 ds0)) := by
  match vs, ds, r with
  | _, _, .nil => exact .nil
  | _, _, .cons h r => exact .cons (Rep.lift1 r0 h) (RepA.lift1 r0 r)
theorem Rep.liftD {K : PySem.W.Frag} {B : List Addr} {H : Hp} {vs0 : List V} {ds0 : List D} (r0 : RepA K B H vs0 ds0) {v : V} {d : D} (r : Rep K B H v d) : Rep K B H v (liftD vs0 ds0 d) := by
  cases r with
  | act h _ => exact .act h r0
  | non => exact .non
  | bl b => exact .bl b
  | int i => exact .int i
  | str x h => exact .str x h
  | ty n => exact .ty n
  | lst h r => exact .lst h (RepA.lift1 r0 r)
  | tup h r => exact .tup h r
  | obj h1 h2 r => exact .obj h1 h2 r
  | exn h1 h2 h3 h4 h5 h6 r => exact .exn h1 h2 h3 h4 h5 h6 r
  | dK h1 h2 r => exact .dK h1 h2 r
  | dT h1 h2 r => exact .dT h1 h2 r
  | ref a => exact .ref a
  | glo x => exact .glo x
  | scr h => exact .scr h
theorem RepA.liftD {K : PySem.W.Frag} {B : List Addr} {H : Hp} {vs0 : List V} {ds0 : List D} (r0 : RepA K B H vs0 ds0) {vs : List V} {ds : List D} (r : RepA K B H vs ds) : RepA K B H vs (ds.map (Dl.liftD vs0 ds0)) := by
  match vs, ds, r with
  | _, _, .nil => exact .nil
  | _, _, .cons h r => exact .cons (Rep.liftD r0 h) (RepA.liftD r0 r)
/-! ### the lambda's names -/
/-- captured ones and globals; a parameter that is not read -/
def lamSB (N : List Str) (sc scope : Scope) : Bool :=
  decide (scope.kind = .function) && !scope.isCoroutine && !scope.isGenerator && scope.names.all fun y => (!decide (y.2 = .local) || !decide (y.1 ∈ N)) && !decide (y.2 = .cell) && (!decide (y.2 = .free) || decide (sc.names.lookup y.1 = some .cell) || decide (sc.names.lookup y.1 = some .free))
structure LamS (N : List Str) (sc scope : Scope) : Prop where
  kind : scope.kind = .function
  co : scope.isCoroutine = false
  gen : scope.isGenerator = false
  own : ∀ y ∈ scope.names, (y.2 = .local → y.1 ∉ N) ∧ y.2 ≠ .cell
  free : ∀ y ∈ scope.names, y.2 = .free → sc.names.lookup y.1 = some .cell ∨ sc.names.lookup y.1 = some .free
theorem lamS_by {N : List Str} {sc scope : Scope} (h : lamSB N sc scope = true) : LamS N sc scope := by
  unfold lamSB at h
  simp only [Bool.and_eq_true, Bool.or_eq_true, Bool.not_eq_true', decide_eq_true_eq, decide_eq_false_iff_not, List.all_eq_true] at h
  obtain ⟨⟨⟨h1, h2⟩, h3⟩, h4⟩ := h
  refine ⟨h1, h2, h3, fun y hy => ⟨fun e => ?_, (h4 y hy).1.2⟩, fun y hy e => ?_⟩
  · rcases (h4 y hy).1.1 with z | z
    · exact absurd e z
    · exact z
  · rcases (h4 y hy).2 with (z | z) | z
    · exact absurd e z
    · exact .inl z
    · exact .inr z
/-- what binds no argument: the lambda has none, or one that has a value -/
def LamB (params : Arguments) (body : Expr) (scope : Scope) : Prop :=
  (params.defaults.isEmpty = true ∧ ∀ (q : Str) (cl : List (Str × Addr)) (doc pm cv ct : Value), bindArgs (PySem.W.kdv_fn "<lambda>" q params (.expr body) scope cl .none doc pm cv ct) ⟨[], []⟩ = pure []) ∨
  (params.defaults.isEmpty = false ∧ ∃ a : Str, scope.names.lookup a = some .local ∧ ∀ (q : Str) (cl : List (Str × Addr)) (t : Addr) (doc pm cv ct : Value), ∃ k, bindArgs (PySem.W.kdv_fn "<lambda>" q params (.expr body) scope cl (.ref t) doc pm cv ct) ⟨[], []⟩ = seqItems? (.ref t) >>= k ∧ ∀ v, k (some #[v]) = pure [(a, v)])
section
variable {X : Cx} {pins : List (Addr × Obj)} {σ : L2.St} {H HZ : Hp} {s s1 : Shared}
theorem lam_start {A : Around} {outer : List Env} {E : XK} {scope : Scope} {f c' : Addr} {h₁ : Heap} {tk : Nat} {binds : List (Str × Value)} (I : Inv X pins σ H s) (L : LamS X.N X.env.scope scope) (e0 : Env0 X.prog X.w X.K X.mg X.base A outer s1 HZ) (hd : A.handled = none)
    (un : ∀ y c, X.env.cells.lookup y = some c → (∀ o, s.heap.get? c = some o → s1.heap.get? c = some o) ∧ HZ c = none) (hns : h₁.Ns s1.heap.objs.size fun y => binds.reverse.lookup y) (kp : ∀ b o, s1.heap.get? b = some o → h₁.get? b = some o) :
    Inv (LamX.lamCx X A outer s1 HZ E scope f c') [] σ HZ { s1 with heap := h₁, toks := tk } := by
  have hfree : ∀ y ∈ scope.names, y.2 = .free → ∃ c, X.env.cells.lookup y.1 = some c := fun y hy e => by
    rcases L.free y hy e with k | k
    · exact I.ok.has _ (.inl k)
    · exact I.ok.has _ (.inr k)
  have cm : ∀ {y c}, (cloFrom X.env.cells scope.names []).lookup y = some c → X.env.cells.lookup y = some c := fun {y c} e => by
    rcases cloFrom_mem (PySem.mem_of_lookup e) with hm | ⟨h1, h2⟩
    · cases hm
    · obtain ⟨c1, hc⟩ := hfree _ h1 rfl
      have hc : X.env.cells.lookup y = some c1 := hc
      have e2 : c = c1 := by
        rw [h2, hc] <;> rfl
      rw [e2]
      exact hc
  have look : ∀ {y}, scope.names.lookup y = some .free → ∃ c, (cloFrom X.env.cells scope.names []).lookup y = some c := fun {y} hl => by
    have hy : (y, NameKind.free) ∈ scope.names := PySem.mem_of_lookup hl
    exact mem_lookup (cloFrom_has (cells := X.env.cells) (acc := []) hy)
  have cellK : ∀ {y : Str} {c : Addr} {v : Option Value}, X.env.cells.lookup y = some c → s.heap.IsCell c v → h₁.IsCell c v := fun {y c v} n ⟨o, ho, hd⟩ => ⟨_, kp _ _ ((un y c n).1 o ho), hd⟩
  have noA : ∀ b : Addr, b ∉ (LamX.lamCx X A outer s1 HZ E scope f c').ex := fun b z => absurd (show b ∈ ([] : List Addr) from z) (by simp)
  refine ⟨⟨e0.mod, L.kind, rfl, rfl, Nat.le_refl _, fun y z c e1 e2 => I.ok.inj y z c (cm e1) (cm e2), fun y hy => ?_, fun y c z _ => ?_, fun _ => hd, Around.frames_deeper e0.frames, .inr ⟨rfl, rfl⟩, fun b z => absurd z (noA b), e0.bs, e0.bsz, fun b _ _ => noA b,
      fun b z => absurd z (noA b), e0.funs, e0.frf⟩,
    rfl, e0.bare, Un.kept kp, ⟨_, hns, fun i y v e1 e2 e3 => ?_⟩, fun y c e => ?_, e0.hok.fresh (Nat.le_refl _), fun y c e => ?_, fun q hq => absurd (show q ∈ ([] : List (Addr × Obj)) ++ [] from hq) (by simp), e0.hok.kept kp, I.len⟩
  · have hy : scope.names.lookup y = some .cell ∨ scope.names.lookup y = some .free := hy
    rcases hy with hy | hy
    · exact absurd rfl (L.own _ (PySem.mem_of_lookup hy)).2
    · exact look hy
  · have z : false = true := z
    cases z
  · have e3 : Vis scope y := e3
    have e1 : X.N[i]? = some y := e1
    rcases e3 with k | k | k
    · exact absurd (List.mem_of_getElem? e1) ((L.own _ (PySem.mem_of_lookup k)).1 rfl)
    · exact absurd rfl (L.own _ (PySem.mem_of_lookup k)).2
    · obtain ⟨m, hn, hl⟩ := I.loc
      have hvis : Vis X.env.scope y := (L.free _ (PySem.mem_of_lookup k) rfl).elim (fun k => .inr (.inl k)) (fun k => .inr (.inr k))
      obtain ⟨w', r, q⟩ := hl i y v e1 e2 hvis
      obtain ⟨c2, h2⟩ := look k
      refine ⟨w', r, .inr ⟨.inr k, c2, h2, ?_⟩⟩
      have c1 := cm h2
      rcases q with ⟨k', _⟩ | ⟨_, c3, e', z⟩
      · have k' : X.env.scope.names.lookup y = some .local := k'
        rcases L.free _ (PySem.mem_of_lookup k) rfl with k2 | k2 <;> rw [show X.env.scope.names.lookup y = _ from k2] at k' <;> cases k'
      · rw [c1] at e'
        cases e'
        exact cellK c1 z
  · obtain ⟨w', z⟩ := I.cell y c (cm e)
    exact ⟨w', cellK (cm e) z⟩
  · exact (un y c (cm e)).2
/-- a lambda of X runs -/
theorem lam_run {params : Arguments} {body : Expr} {scope : Scope} {kk : Nat} {t : TD} {F0 F : List Addr} {M0 M : MM} {ds : SD} {A : Around} {outer : List Env} {f : Addr} {o : Unit → Obj} {Z : XD} {QD : QD} {Q : VK} {E : XK}
    (I : Inv X pins σ H s) (sl : RSl X.K (ak F0 M0) H σ ds) (L : LamS X.N X.env.scope scope) (hbd : LamB params body scope) (hR : lamR X params body scope o)
    (hb : ∀ (A : Around) (outer : List Env) (s : Shared) (H : Hp) (E : XK) (f c' : Addr), Room kk (A.deeper (LamX.lamEnv X scope s.heap.objs.size f c')) → PD (LamX.lamCx X A outer s H E scope f c') body t)
    (hr : Room (kk + 1) A) (e0 : Env0 X.prog X.w X.K X.mg X.base A outer s1 HZ) (kp : ∀ y c, X.env.cells.lookup y = some c → (∀ o, s.heap.get? c = some o → s1.heap.get? c = some o) ∧ HZ c = none) (mm : RMM X.K F HZ M) (rp : Rep X.K (ak F M) HZ (.ref f) (.act o (vsOf σ ds) (known ds))) (ht : t ds M Z QD) (kq : KQ X.K F HZ M QD Q) (kx : KX X.K F HZ M Z E) :
    codeAny (model X.prog X.w) A (.call (.ref f) ⟨[], []⟩) (CR (L2.CX X.prog X.w) outer X.prog X.w HZ s1 Q E) s1 := by
  obtain ⟨dV, doc, pm, c', ct, eo, hd0, hd1⟩ := hR
  cases rp with
  | act hl hrs =>
    obtain ⟨n1, e1, fd, c, e2, e3, n2, e4, e5⟩ := hl
    have of1 : s1.heap.get? f = some (o ()) := (e0.hok f _ e1).1
    rw [eo] at of1 e2
    cases e2
    cases e3
    obtain ⟨⟨oc, vs, t0, hoc, hdc, hvc⟩, _, _⟩ := e0.hok c' _ e4
    have binds : ∃ bs : List (Str × Value), BindsTo s1 (PySem.W.kdv_fn "<lambda>" (X.env.qual ++ "<lambda>") params (.expr body) scope (cloFrom X.env.cells scope.names []) dV doc pm (.ref c') ct) ⟨[], []⟩ bs ∧ ∀ y ∈ bs, scope.names.lookup y.1 = some .local := by
      rcases hbd with ⟨hd, hb⟩ | ⟨hd, a, ha, hb⟩
      · cases hd0 hd
        exact ⟨[], BindsTo.of_eq (hb _ _ _ _ _ _), fun y hy => nomatch hy⟩
      · obtain ⟨t1, rfl⟩ := hd1 hd
        obtain ⟨k, h1, h2⟩ := hb (X.env.qual ++ "<lambda>") (cloFrom X.env.cells scope.names []) t1 doc pm (.ref c') ct
        rcases e5 with z | ⟨t2, v, z1, z2, z3⟩
        · cases z
        · cases z1
          exact ⟨[(a, v)], BindsTo.of_defaults rfl (e0.hok _ _ z3).1 rfl h1 (h2 v), fun y hy => by simp at hy; subst hy; exact ha⟩
    obtain ⟨bs, hbs, hloc⟩ := binds
    refine PySem.W.kla_callFunE hr.depth of1 rfl L.co L.gen rfl ⟨c', oc, vs, t0, rfl, hoc, hdc, hvc⟩ (hbs _ _ _ _ ?_)
    refine wpAny_newFunctionEnv (fun y hy => (L.own y hy).2) hloc (fun h₁ hns hsb => ⟨(e0.mod.nolimit.keeps fun b o e => (e0.bs b o e).1).fresh _ hsb, ?_⟩) L.kind
    show codeAny _ _ (.expr body (LamX.lamEnv X scope s1.heap.objs.size f c')) _ _
    have kh : ∀ b o, s1.heap.get? b = some o → h₁.get? b = some o := fun b o e => hsb.extBut b o (Nat.ne_of_lt (Heap.lt_size e)) (Heap.get?_push_of_some _ e)
    have J : Inv (LamX.lamCx X A outer s1 HZ E scope f c') [] σ HZ { s1 with heap := h₁, toks := s1.toks + bs.length } := lam_start I L e0 hr.hd kp hns kh
    have tk : Takes (LamX.lamCx X A outer s1 HZ E scope f c') (fun cls d _ H => E cls d H) := takes_of rfl rfl rfl rfl
    refine PySem.W.kla_codeExpr (wpAny_mono ((hb A outer s1 HZ E f c' (hr.deeper _)).run _ tk F [] _ σ HZ ds M Z QD J ⟨mm, sl.unflat hrs, kx.kw⟩ ht) (fun v s' hq => ?_) fun e s' hq => hq)
    obtain ⟨w', H', d, M', J', rv, st, m2, rp2, q⟩ := hq
    exact ⟨w', H', J'.os, J'.bare, J'.base, J'.hok, rv, kq w' H' d M' st m2 rp2 q⟩
end
/-- what the lambdas of a law mean, over its slots: lambda n by Ts n -/
def meanM (R : Nat → (Unit → Obj) → Prop) (Ts : Nat → TD) (ds : SD) : Mean := fun o M Z Q => ∃ n, R n o ∧ Ts n ds M Z Q
/-- a lambda of X: how its body is read -/
structure LamD (X : Cx) (kk : Nat) (R : (Unit → Obj) → Prop) (t : TD) : Prop where
  ex : ∃ (params : Arguments) (body : Expr) (scope : Scope), LamS X.N X.env.scope scope ∧ LamB params body scope ∧ (∀ o, R o → lamR X params body scope o) ∧
    ∀ (A : Around) (outer : List Env) (s : Shared) (H : Hp) (E : XK) (f c' : Addr), Room kk (A.deeper (LamX.lamEnv X scope s.heap.objs.size f c')) → PD (LamX.lamCx X A outer s H E scope f c') body t
/-! ### what is not told at a moment, as a base -/
open Classical in
noncomputable def hideL (X : Cx) (H : Hp) (s : Shared) : List Addr := (List.range s.heap.objs.size).filter fun b => decide (H b ≠ none ∨ b ∈ frs X.stack)
noncomputable def baseAt (X : Cx) (H : Hp) (s : Shared) : Heap := PySem.W.hideAll s.heap (hideL X H s)
section
variable {X : Cx} {pins : List (Addr × Obj)} {σ : L2.St} {H : Hp} {s : Shared}
theorem mem_hideL {b : Addr} : b ∈ hideL X H s ↔ b < s.heap.objs.size ∧ (H b ≠ none ∨ b ∈ frs X.stack) := by
  unfold hideL
  rw [List.mem_filter, List.mem_range, decide_eq_true_eq]
theorem baseAt_get {b : Addr} {o : Obj} (e : s.heap.get? b = some o) (n : H b = none) (hf : b ∉ frs X.stack) : (baseAt X H s).get? b = some o :=
  PySem.W.hideAll_get _ e fun z => (mem_hideL.mp z).2.elim (fun q => q n) hf
theorem baseAt_of {b : Addr} {o : Obj} (e : (baseAt X H s).get? b = some o) : s.heap.get? b = some o ∧ H b = none ∧ b ∉ frs X.stack := by
  have e1 : s.heap.get? b = some o := PySem.W.of_hideAll _ e
  have nm : b ∉ hideL X H s := fun z => by
    have := PySem.W.hideAll_none (hideL X H s) (h := s.heap) z
    have e' : (PySem.W.hideAll s.heap (hideL X H s)).get? b = some o := e
    rw [this] at e'
    cases e'
  have hlt := Heap.lt_size e1
  refine ⟨e1, Classical.byContradiction fun q => nm (mem_hideL.mpr ⟨hlt, .inl q⟩), fun q => nm (mem_hideL.mpr ⟨hlt, .inr q⟩)⟩
theorem base_le (I : Inv X pins σ H s) {b : Addr} {o : Obj} (e : X.base.get? b = some o) : (baseAt X H s).get? b = some o :=
  baseAt_get (I.bs b o e).1 (I.bs b o e).2 fun z => by
    have := (I.stack.mem z).1
    rw [e] at this
    cases this
theorem funs_up {h b1 b2 : Heap} : ∀ {l : List Env}, (∀ L ∈ frs l, b2.get? L = none) → h.FunFrames b1 l → h.FunFrames b2 l
  | [], _, _ => trivial
  | env :: rest, hf, ⟨h1, ⟨L, o, e1, e2, e3, e4⟩, h3⟩ => ⟨h1, ⟨L, o, e1, hf L (by unfold frs; rw [List.filterMap_cons, e1]; exact List.mem_cons_self), e3, e4⟩, funs_up (fun L' hL => hf L' (by
      unfold frs at hL ⊢
      rw [List.filterMap_cons, e1]
      exact List.mem_cons_of_mem _ hL)) h3⟩
theorem inv_envB (I : Inv X pins σ H s) : Env0 X.prog X.w X.K X.mg (baseAt X H s) X.A X.stack s H := by
  refine ⟨I.ok.frames, ⟨I.ok.mod.kin.keeps fun b o e => base_le I e, I.ok.mod.glob.keeps fun b o e => base_le I e, ?_, I.ok.mod.nolimit.keeps fun b o e => base_le I e⟩, fun b o e => ⟨(baseAt_of e).1, (baseAt_of e).2.1⟩, ?_, funs_up (fun L hL => ?_) I.stack, I.stkFree, I.hok, I.bare⟩
  · obtain ⟨mb, h1, h2⟩ := I.ok.mod.blt
    exact ⟨mb, h1.keeps fun b o e => base_le I e, h2⟩
  · show (PySem.W.hideAll s.heap (hideL X H s)).objs.size ≤ _
    rw [PySem.W.hideAll_size]
    exact Nat.le_refl _
  · cases q : (baseAt X H s).get? L with
    | none => rfl
    | some o => exact absurd hL (baseAt_of q).2.2
theorem env_down (I : Inv X pins σ H s) {A : Around} {outer : List Env} {s1 : Shared} {H1 : Hp} (e0 : Env0 X.prog X.w X.K X.mg (baseAt X H s) A outer s1 H1) : Env0 X.prog X.w X.K X.mg X.base A outer s1 H1 := by
  refine ⟨e0.frames, I.ok.mod, fun b o e => e0.bs b o (base_le I e), ?_, funs_up (fun L hL => ?_) e0.funs, e0.frf, e0.hok, e0.bare⟩
  · have h1 : (baseAt X H s).objs.size = s.heap.objs.size := PySem.W.hideAll_size _ _
    have h2 := e0.bsz
    rw [h1] at h2
    exact Nat.le_trans (Nat.le_trans I.ok.bsz I.sz) h2
  · cases q : X.base.get? L with
    | none => rfl
    | some o =>
      have := (e0.funs.mem hL).1
      rw [base_le I q] at this
      cases this
theorem cell_nofr (I : Inv X pins σ H s) (hfn : ∀ x, X.fn x = true) {y : Str} {c : Addr} (e : X.env.cells.lookup y = some c) : c ∉ frs X.stack := fun z => by
  obtain ⟨v, o, ho, hd⟩ := I.cell y c e
  rcases List.mem_cons.mp (I.stkSub c z) with q | q
  · obtain ⟨m, hn, _⟩ := I.loc
    obtain ⟨o', es, ep, ho', r⟩ := hn
    rw [q] at ho
    rw [ho] at ho'
    cases ho'
    rw [r.1] at hd
    cases hd
  · obtain ⟨_, o', ho', _⟩ := I.ok.funs.mem q
    exact absurd (Nat.lt_of_lt_of_le (Heap.lt_size ho') (I.ok.cab y c (hfn y) e)) (Nat.lt_irrefl _)
theorem acts_of {R : Nat → (Unit → Obj) → Prop} {Ts : Nat → TD} {kk : Nat} {F0 : List Addr} {M0 : MM} {ds : SD} (I : Inv X pins σ H s) (hfn : ∀ x, X.fn x = true) (sl : RSl X.K (ak F0 M0) H σ ds) (hL : ∀ n o, R n o → LamD X kk (R n) (Ts n)) :
    Acts X.prog X.w X.K X.mg (baseAt X H s) (kk + 1) (vsOf σ ds) (known ds) (meanM R Ts ds) := by
  intro A outer s1 H1 F f o M Z QD Q E hr e0 mm rp h kq kx
  obtain ⟨n, hR, ht⟩ := h
  obtain ⟨params, body, scope, L, hbd, hRR, hb⟩ := (hL n o hR).ex
  refine lam_run I sl L hbd (hRR o hR) hb hr (env_down I e0) (fun y c e => ?_) mm rp ht kq kx
  obtain ⟨v, ob, ho, hd⟩ := I.cell y c e
  have q := e0.bs c ob (baseAt_get ho (I.freeC y c e) (cell_nofr I hfn e))
  exact ⟨fun o' ho' => by rw [ho] at ho'; cases ho'; exact q.1, q.2⟩
/-- x(e, ..), x a def that gets lambdas -/
def dCallM (sp : SpA) (R : Nat → (Unit → Obj) → Prop) (Ts : Nat → TD) (t : TAD) : TD := fun ds M Z Q => t ds M Z fun xs M1 => ∀ vs0, sp vs0 (known ds) (meanM R Ts ds) (xs.map (liftD vs0 (known ds))) M1 Z Q
@[simp ↓] theorem dCallM_eq (sp : SpA) (R : Nat → (Unit → Obj) → Prop) (Ts : Nat → TD) (t : TAD) : ∀ ds M Z Q, dCallM sp R Ts t ds M Z Q = (t ds M Z fun xs M1 => ∀ vs0, sp vs0 (known ds) (meanM R Ts ds) (xs.map (liftD vs0 (known ds))) M1 Z Q) := fun _ _ _ _ => rfl
variable {sp : SpA} {R : Nat → (Unit → Obj) → Prop} {Ts : Nat → TD} {k kk : Nat} {g : Addr} {x : Str} {e : Expr} {es : List Expr} {t : TAD} {p pos : Pos}
theorem d_callM (Fn : ∀ (base : Heap) (vs0 : List V) (ds0 : List D) (mean : Mean), Acts X.prog X.w X.K X.mg base (kk + 1) vs0 ds0 mean → FnS X.prog X.w X.K X.mg base k g [] (fun xs _ M Z Q => sp vs0 ds0 mean xs M Z Q)) (hfn : ∀ x, X.fn x = true) (hr : Room k X.A) (hL : ∀ n o, R n o → LamD X kk (R n) (Ts n)) (hk : PySem.W.keepIn X.K (.ref g) = true) (hm : X.mg x = some (.ref g)) (ha : PAD X (e :: es) t) (hg : Gl X x := by rfl) (hdb : (x == ("__debug__" : Str)) = false := by decide)
    (he : notStar e = true := by rfl) (hpl : noStars es = true := by rfl) : PD X (.Call (.Name x p) (e :: es) [] pos) (dCallM sp R Ts t) := by
  refine ⟨fun W tks F pins s σ H ds M Z Q I hs ht => ?_⟩
  refine wpAny_Call_Name_kw (ld_glob I hg hm ?_ hdb)
  refine PySem.W.callWith_K (h₀ := X.base) I.ok.mod.kin hk (thn (ha.run W tks pos F pins s σ H ds M Z _ I hs ht) fun us s1 ⟨vs, H1, xs, M1, I1, r, st, mm, rp, q⟩ => ⟨I1.kIn, ?_⟩) (star_cons he) (star_any hpl)
  have sl1 := hs.sl.step st.fix
  have rc := Fn (baseAt X H1 s1) (vsOf σ ds) (known ds) (meanM R Ts ds) (acts_of I1 hfn sl1 hL) X.A X.stack s1 H1 us [] vs [] F _ [] M1 Z Q _ (WE W σ) hr (inv_envB I1) r .nil rfl mm (RepA.liftD sl1.flat rp) .nil (q _) KQ.eq (fun C fs vs d H' M' st mm e n r q => (hs.kx.on ‹Stp H (keys M) H1 (keys M1)›) C fs vs d H' M' st mm e n r q)
  refine wpAny_call (codeAny_mono rc fun r s' hq => ?_)
  cases r with
  | error e => exact passAt tks σ pins H1 s1 e s' I1 hq
  | ok fl =>
    cases fl with
    | ret u =>
      obtain ⟨v, H', I', rv, d, M', st2, m2, rp, q⟩ := I1.after hq
      exact ⟨v, H', d, M', I', rv, st.trans st2, m2, rp, q⟩
    | next => exact False.elim hq
    | brk => exact False.elim hq
    | cont => exact False.elim hq
end
end L2.Dl

namespace L2.Dl
open PySem PySem.Spec PyProof.Rows
/-! ### a def called in an except suite; it raises nothing -/
/-- nothing is handled -/
abbrev cool (A : Around) : Around := { A with handled := none }
abbrev cxC (P : Program) (w : World) (K : PySem.W.Frag) (mg : Str → Option Value) (base : Heap) (N : List Str) (qual : Str) (scope : Scope) (f : Addr) (cd : Value) (A : Around) (outer : List Env) (s : Shared) (H : Hp) (E : XK) : Cx := { cxOf (L2.CX P w) P w K mg base N qual scope f cd A outer s H E with calm := false }
def FnSH (P : Program) (w : World) (K : PySem.W.Frag) (mg : Str → Option Value) (base : Heap) (k : Nat) (f : Addr) (sp : SpD) : Prop :=
  ∀ (A : Around) (outer : List Env) (s : Shared) (H : Hp) (us : List Value) (vs : List V) (F : List Addr) (xs : List D) (M : MM) (Z : XD) (QD : QD) (Q : VK) (E : XK), Room k (cool A) → Env0 P w K mg base A outer s H → Vals vs us →
    RMM K F H M → RepA K (ak F M) H vs xs → sp xs M Z QD → KQ K F H M QD Q → KX K F H M Z E → codeAny (model P w) A (.call (.ref f) ⟨us, []⟩) (CR (L2.CX P w) outer P w H s Q E) s
section
variable {P : Program} {w : World} {K : PySem.W.Frag} {mg : Str → Option Value} {base : Heap} {x qual : Str} {params : Arguments} {body : List Stmt} {scope : Scope} {dvs : List V} {kws : List (Str × V)} {f : Addr} {fd : FuncData} {N ps : List Str} {k : Nat} {sp : SpD}
theorem fn_h (Fn : FunD K x qual params body scope dvs kws f fd) (S : FnScope N ps scope) (hbi : ∀ (s : Shared) (us : List Value), us.length = ps.length → BindsTo s fd ⟨us, []⟩ (ps.zip us)) {t : TSD}
    (hb : ∀ (X : Cx) (cdv : Value) (A : Around) (outer : List Env) (s : Shared) (H : Hp) (E : XK), X = cxC P w K mg base N qual scope f cdv A outer s H E → Room k (cool X.A) → PassesOwn (model X.prog X.w) X.A X.env X.xe → PSsD X body t)
    (hp : ∀ xs M Z Q, sp xs M Z Q → xs.length = ps.length ∧ t { nx := fun _ M' => Q .non M', rt := Q, xc := fun C fs _ M' => Z C fs M' } (startD N xs) M) : FnSH P w K mg base (k + 1) f sp := by
  intro A outer s H us vs F xs M Z QD Q E hr e0 r mm rp h kq kx
  obtain ⟨oc, od, dV, kV, doc, pm, an, cdv, ct, osl, rfl, lk, hcd, _, _⟩ := Fn.ex
  obtain ⟨hl0, ht⟩ := hp xs M Z QD h
  have hl : vs.length = ps.length := by rw [rp.len]; exact hl0
  have hul : us.length = ps.length := by rw [← r.length]; exact hl
  have KX : K.In s.heap := e0.mod.kin.keeps fun b o e => (e0.bs b o e).1
  have lim : s.heap.NoLimit := e0.mod.nolimit.keeps fun b o e => (e0.bs b o e).1
  have hkind : ∀ y ∈ ps.zip us, scope.names.lookup y.1 = some .local ∨ (scope.names.lookup y.1 = some .cell ∧ ((cellsFrom (s.heap.objs.size + 1) scope.names []).lookup y.1).isSome = true) := fun ⟨n, v⟩ hy => by
    rcases S.par n (List.of_mem_zip hy).1 with q | q
    · exact .inl q
    · exact .inr ⟨q, PySem.W.cellsFrom_some _ _ _ (.inl q)⟩
  have dp : A.depth < recursionLimit := hr.depth
  refine codeAny_call_function dp (KX _ _ lk) rfl S.co S.gen rfl (PySem.W.codeRec_of KX hcd) (hbi s us hul _ _ _ _ ?_)
  refine wpAny_newFunctionEnv_cells S.kind hkind fun env he s1 x => ?_
  subst he
  refine ⟨lim.keeps x.toInCall.keep, codeAny_func ?_⟩
  have e1 : Env0 P w K mg base (cool A) outer s H := ⟨e0.frames, e0.mod, e0.bs, e0.bsz, e0.funs, e0.frf, e0.hok, e0.bare⟩
  have I0 : Inv (cxOf (L2.CX P w) P w K mg base N qual scope f cdv (cool A) outer s H E) [] (L2.start N vs) H s1 := inv_start S hr.hd e1 hl r x
  have ok := I0.ok
  have fr : (A.deeper (envOfC qual scope s.heap.objs.size f cdv)).frames = some (envOfC qual scope s.heap.objs.size f cdv :: outer) := Around.frames_deeper e0.frames
  have okC : (cxC P w K mg base N qual scope f cdv A outer s H E).Ok := ⟨ok.mod, ok.kind, ok.glob, ok.blt, ok.above, ok.inj, ok.has, ok.cab, (fun z => absurd (show false = true from z) Bool.false_ne_true), fr, ok.stk, ok.exf, ok.bs, ok.bsz, ok.noex, ok.exfs, ok.funs, ok.frf⟩
  have I : Inv (cxC P w K mg base N qual scope f cdv A outer s H E) [] (L2.start N vs) H s1 := ⟨okC, I0.os, I0.bare, I0.base, I0.loc, I0.cell, I0.free, I0.freeC, I0.pin, I0.hok, I0.len⟩
  have tk : Takes (cxC P w K mg base N qual scope f cdv A outer s H E) (fun cls d _ H => E cls d H) := takes_of rfl rfl rfl rfl
  have hr' : Room k (cool (A.deeper (envOfC qual scope s.heap.objs.size f cdv))) := hr.deeper (envOfC qual scope s.heap.objs.size f cdv)
  have ht' := (hb _ cdv A outer s H E rfl hr' (passes_of rfl)).ps tk
  refine wpAny_mono (ht'.run [] s1 (L2.start N vs) H { nx := fun _ H' => Q .non H', rt := Q } I ⟨F, startD N xs, M, _, ⟨mm, start_ok N rp⟩, ht, ⟨fun σ' H' ds' M' st tt q => kq .non H' .non M' st tt.mm .non q, kq, fun _ _ _ _ _ _ q => q.elim, fun _ _ _ _ _ _ q => q.elim, kx.ws⟩⟩) (fun fl s' hs => ?_) fun e s' hs => hs
  have fin : ∀ {σ' : L2.St} {H' : Hp} {v : V} {u : Value}, Inv (cxC P w K mg base N qual scope f cdv A outer s H E) [] σ' H' s' → L2.RelV v u → Q v H' → CE outer P w H s Q u s' :=
    fun {σ' H' v u} J rv q => ⟨v, H', J.os, J.bare, J.base, J.hok, rv, q⟩
  cases fl with
  | ret u =>
    obtain ⟨v, σ', H', J, rv, q⟩ := hs
    exact fin J rv q
  | next =>
    obtain ⟨σ', H', J, q⟩ := hs
    exact fin (v := V.non) (u := Value.none) J rfl q
  | brk =>
    obtain ⟨_, _, _, q⟩ := hs
    exact False.elim q
  | cont =>
    obtain ⟨_, _, _, q⟩ := hs
    exact False.elim q
end
section
variable {X : Cx} {f : Addr} {k : Nat} {sp : SpD}
theorem cal_h (Fn : FnSH X.prog X.w X.K X.mg X.base k f sp) (hr : Room k (cool X.A)) : CalS X f [] (fun xs _ M Z Q => sp xs M Z Q) := by
  intro W tk pins σ H s F M Z us ws vs zs xs ys Q I mm kx r1 r2 hl a b h
  have rc := Fn X.A X.stack s H us vs F xs M Z Q _ (WE W σ) hr I.env0 r1 mm a h KQ.eq (fun C fs vs d H' M' st mm e n r q => kx C fs vs d H' M' st mm e n r q)
  cases ws with
  | nil =>
    refine wpAny_call (codeAny_mono rc fun r s' hq => ?_)
    cases r with
    | error e => exact passAt tk σ pins H s e s' I hq
    | ok fl =>
      cases fl with
      | ret u =>
        obtain ⟨v, H', I', rv, d, M', st, m2, rp, q⟩ := I.after hq
        exact ⟨v, H', d, M', I', rv, st, m2, rp, q⟩
      | next => exact False.elim hq
      | brk => exact False.elim hq
      | cont => exact False.elim hq
  | cons _ _ => cases r2; cases hl
end
end L2.Dl

namespace L2.Dl
open PySem PySem.Spec PyProof.Rows
/-! ### the law's table of code objects, at the head's end -/
def tyB (v : Value) (n : String) : Bool := match v with | .type m => decide (m = n) | _ => false
def strB : Value → Bool | .str _ _ => true | _ => false
def intB : Value → Bool | .int _ _ => true | _ => false
def boolB : Value → Bool | .bool _ => true | _ => false
def refB (v : Value) (p : Addr) : Bool := match v with | .ref q => decide (q = p) | _ => false
def tabO (o : Obj) : Bool := match o.cls, o.data with | .none, .fields _ => true | _, _ => false
def emptyTab (o : Obj) : Bool := match o.cls, o.dict, o.data with | .none, none, .fields vs => decide (vs.size = 0) && decide (o.slots.size = 0) | _, _, _ => false
theorem emptyTab_ok {o : Obj} (h : emptyTab o = true) : o = { cls := .none, data := .fields #[] } := by
  obtain ⟨c, d, dt, sl⟩ := o
  unfold emptyTab at h
  split at h
  · rename_i vs e1 e2 e3
    have e1 : c = .none := e1
    have e2 : d = none := e2
    have e3 : dt = .fields vs := e3
    subst e1; subst e2; subst e3
    obtain ⟨h1, h2⟩ := Bool.and_eq_true_iff.mp h
    have k1 : vs = #[] := Array.eq_empty_of_size_eq_zero (of_decide_eq_true h1)
    have k2 : sl = #[] := Array.eq_empty_of_size_eq_zero (of_decide_eq_true h2)
    rw [k1, k2]
  · cases h
def hdB (oc : Obj) (vs : Array Value) (c P : Addr) : Bool := tyB oc.cls "code" && (refB (vs.getD 11 .none) P && (strB (vs.getD 18 .none) && (intB (vs.getD 7 .none) && (boolB (vs.getD 9 .none) && (intB (vs.getD 10 .none) && !decide (c = P))))))
def lawTab (K : PySem.W.Frag) : Option (Addr × Addr) := match K.lookup (He.fAd K ("law", none)) with
  | some o => (match o.data with
    | .func fd => (match fd.code with
      | .ref c => (match K.lookup c with
        | some oc => (match oc.data with
          | .fields vs => (match (vs[11]? : Option Value) with
            | some (.ref P) => if hdB oc vs c P = true then some (c, P) else none
            | _ => none)
          | _ => none)
        | none => none)
      | _ => none)
    | _ => none)
  | none => none
theorem lawTab_ok {K : PySem.W.Frag} {c P : Addr} (h : lawTab K = some (c, P)) : (∃ o fd, K.lookup (He.fAd K ("law", none)) = some o ∧ o.data = .func fd ∧ fd.code = .ref c) ∧ ∀ h : Heap, K.In h → PySem.W.CodeHd h c P := by
  unfold lawTab at h
  split at h
  · rename_i o e1
    split at h
    · rename_i fd e2
      split at h
      · rename_i c' e3
        split at h
        · rename_i oc e4
          split at h
          · rename_i vs e5
            split at h
            · rename_i P' e6
              split at h
              · rename_i hb
                cases h
                refine ⟨⟨o, fd, e1, e2, e3⟩, fun hh hk => ?_⟩
                unfold hdB at hb
                simp only [Bool.and_eq_true] at hb
                obtain ⟨b1, b2, b3, b4, b5, b6, b7⟩ := hb
                have t1 : oc.cls = .type "code" := by
                  unfold tyB at b1
                  split at b1
                  · rename_i m e; rw [e, of_decide_eq_true b1]
                  · cases b1
                have t2 : vs.getD 11 .none = .ref P := by
                  unfold refB at b2
                  split at b2
                  · rename_i m e; rw [e, of_decide_eq_true b2]
                  · cases b2
                have t3 : ∃ f t, vs.getD 18 .none = .str f t := by
                  unfold strB at b3
                  split at b3
                  · rename_i f t e; exact ⟨f, t, e⟩
                  · cases b3
                have t4 : ∃ f t, vs.getD 7 .none = .int f t := by
                  unfold intB at b4
                  split at b4
                  · rename_i f t e; exact ⟨f, t, e⟩
                  · cases b4
                have t5 : ∃ f, vs.getD 9 .none = .bool f := by
                  unfold boolB at b5
                  split at b5
                  · rename_i f e; exact ⟨f, e⟩
                  · cases b5
                have t6 : ∃ f t, vs.getD 10 .none = .int f t := by
                  unfold intB at b6
                  split at b6
                  · rename_i f t e; exact ⟨f, t, e⟩
                  · cases b6
                obtain ⟨f3, u3, t3⟩ := t3
                obtain ⟨f4, u4, t4⟩ := t4
                obtain ⟨f5, t5⟩ := t5
                obtain ⟨f6, u6, t6⟩ := t6
                exact ⟨oc, vs, f3, u3, f4, u4, f5, f6, u6, hk _ _ e4, t1, e5, e6, t2, t3, t4, t5, t6, by simpa using b7⟩
              · cases h
            · cases h
          · cases h
        · cases h
      · cases h
    · cases h
  · cases h
/-- what is written, without the tables -/
def frL (g : Addr → Option Obj) (as : List Addr) : PySem.W.Frag := (He.frG g as).filter fun p => !tabO p.2
theorem frag_mem {a : Addr} {o : Obj} : ∀ {K : PySem.W.Frag}, K.lookup a = some o → (a, o) ∈ K
  | [], h => by cases h
  | (b, u) :: r, h => by
    rw [List.lookup_cons] at h
    cases hb : a == b with
    | true => rw [hb] at h; cases h; rw [beq_iff_eq.mp hb]; exact List.mem_cons_self
    | false => rw [hb] at h; exact List.mem_cons_of_mem _ (frag_mem h)
theorem lookup_filter_mem {K : PySem.W.Frag} {f : Addr × Obj → Bool} {a : Addr} {o : Obj} (h : (K.filter f).lookup a = some o) : (a, o) ∈ K := (List.mem_filter.mp (frag_mem h)).1
theorem frG_mem {g : Addr → Option Obj} {a : Addr} {o : Obj} {as : List Addr} (h : (a, o) ∈ He.frG g as) : g a = some o := by
  unfold He.frG at h
  obtain ⟨b, hb, e⟩ := List.mem_filterMap.mp h
  cases q : g b with
  | none => rw [q] at e; cases e
  | some u => rw [q] at e; cases e; exact q
theorem frL_in {h : Heap} {as : List Addr} : (frL h.get? as).In h := fun a o e => frG_mem (lookup_filter_mem e)
def tabG (g : Addr → Option Obj) (K : PySem.W.Frag) : Bool := match lawTab K with
  | some (c, P) => (match g P with | some o => emptyTab o | none => false) && (K.lookup P).isNone
  | none => false
abbrev AlL : Type := AlZ × Bool
def obsLG (n : Nat) (fa : List He.Fa) (fn : List He.DefD) (fx : List (PySem.W.Frag → Bool)) (fe fr : List He.DefD) (g : Addr → Option Obj) : AlL :=
  let K := frL g (asZ g n)
  (obsZ fa fn fx fe fr K, tabG g K)
def hookL (n : Nat) (fa : List He.Fa) (fn : List He.DefD) (fx : List (PySem.W.Frag → Bool)) (fe fr : List He.DefD) : PySem.W.Hook where
  α := AlL
  obs := fun s => obsLG n fa fn fx fe fr s.heap.get?
  val := fun _ => (vaZ fn fe fr, true)
  says := fun _ h => ∃ K : PySem.W.Frag, K.In h ∧ SaysZ fa fn fx fe fr K ∧ ∃ c P, lawTab K = some (c, P) ∧ K.lookup P = none ∧ h.get? P = some { cls := .none, data := .fields #[] }
  of := fun w s e => by
    have e : obsLG n fa fn fx fe fr s.heap.get? = (vaZ fn fe fr, true) := e
    unfold obsLG at e
    have e1 : obsZ fa fn fx fe fr (frL s.heap.get? (asZ s.heap.get? n)) = vaZ fn fe fr := congrArg (fun z : AlL => z.1) e
    have e2 : tabG s.heap.get? (frL s.heap.get? (asZ s.heap.get? n)) = true := congrArg (fun z : AlL => z.2) e
    refine ⟨_, frL_in, e1, ?_⟩
    unfold tabG at e2
    split at e2
    · rename_i c P q
      obtain ⟨h1, h2⟩ := Bool.and_eq_true_iff.mp e2
      refine ⟨c, P, q, Option.isNone_iff_eq_none.mp h2, ?_⟩
      split at h1
      · rename_i o qo
        rw [qo, emptyTab_ok h1]
      · cases h1
    · cases e2
  keeps := fun _ _ _ ⟨K, hK, c, a, P, h1, h2, h3⟩ k => ⟨K, PySem.W.Frag.In.keeps hK k, c, a, P, h1, h2, k _ _ h3⟩
theorem obsLG_eq {n : Nat} {fa : List He.Fa} {fn : List He.DefD} {fx : List (PySem.W.Frag → Bool)} {fe fr : List He.DefD} {g : Addr → Option Obj} {s : Shared} (h : ∀ a, g a = s.heap.get? a) : obsLG n fa fn fx fe fr g = (hookL n fa fn fx fe fr).obs s := by
  have e : g = s.heap.get? := funext h
  rw [e] <;> rfl
/-! ### the law -/
def spLawT (P : Addr) (q : Str) : SpD := fun xs M Z Q => ∃ ns : List Int, xs = [.scr ns] ∧ M = [(P, .tab q)] ∧ ∀ M, Q (.bl true) M
theorem law_spT {K : PySem.W.Frag} {H : Hp} {a P : Addr} {q : Str} {ns : List Int} (hP : H P = some (.tbl #[])) (h : SqL K H a (ns.map V.int)) : spOf K (spLawT P q) [.ref a] H (fun v _ => v = .bl true) (fun _ _ _ => False) := by
  refine ⟨[], [.scr ns], [(P, .tab q)], X0, fun d _ => d = .bl true, ⟨by simp, fun b mo hm => ?_, fun _ h => (nomatch h)⟩, .cons (.scr ?_) .nil, ⟨ns, rfl, rfl, fun _ => rfl⟩, fun v H' d M' _ _ rp e => ?_, fun _ _ _ _ _ _ _ _ _ _ _ z => z.elim⟩
  · simp at hm
    obtain ⟨rfl, rfl⟩ := hm
    refine ⟨#[], hP, True.intro, fun pos cv hc => ?_⟩
    have z : codeAmong pos [] = some cv := hc
    simp [codeAmong] at z
  · rcases h with h | h
    · refine .inl ⟨fun z => ?_, h⟩
      have z : a = P := by simpa using z
      subst z
      rcases h with h | ⟨o, h⟩ <;> rw [hP] at h <;> cases h
    · exact .inr h
  · subst e
    cases rp
    rfl
section
variable {P : Program} {w : World} {K : PySem.W.Frag} {mg : Str → Option Value} {base : Heap} {x qual : Str} {params : Arguments} {body : List Stmt} {scope : Scope} {dvs : List V} {kws : List (Str × V)} {f : Addr} {fd : FuncData}
/-- a def whose code object is known -/
theorem fn_dT {N ps : List Str} {k : Nat} {sp : SpD} {c : Addr} (Fn : FunD K x qual params body scope dvs kws f fd) (hc : ∃ o fd', K.lookup f = some o ∧ o.data = .func fd' ∧ fd'.code = .ref c) (S : FnScope N ps scope) {t : Cx → TSD}
    (hb : ∀ (X : Cx) (A : Around) (outer : List Env) (s : Shared) (H : Hp) (E : XK), X = cxOf (L2.CX P w) P w K mg base N qual scope f (.ref c) A outer s H E → Room k X.A → PassesOwn (model X.prog X.w) X.A X.env X.xe → PSsD X body (t X))
    (hp : ∀ (A : Around) (outer : List Env) (s : Shared) (H : Hp) (E : XK) xs M Z Q, sp xs M Z Q → xs.length = ps.length ∧ t (cxOf (L2.CX P w) P w K mg base N qual scope f (.ref c) A outer s H E) { nx := fun _ M' => Q .non M', rt := Q, xc := fun C fs _ M' => Z C fs M' } (startD N xs) M) (hlen : ∀ xs M Z Q, sp xs M Z Q → xs.length = ps.length) : FnOk P w K mg base (L2.CX P w) (k + 1) f fd ps (spOf K sp) := by
  obtain ⟨oc, od, dV, kV, doc, pm, an, cdv, ct, osl, rfl, lk, hcd, _, _⟩ := Fn.ex
  obtain ⟨o, fd', e1, e2, e3⟩ := hc
  rw [lk] at e1
  cases e1
  cases e2
  have e3 : cdv = .ref c := e3
  subst e3
  refine fn_of lk hcd S (fun vs H Q E h => ?_) fun A outer s H vs Q E hr h => ?_
  · obtain ⟨F, xs, M, Z, QD, _, r, h, _⟩ := h
    rw [r.len]
    exact hlen _ _ _ _ h
  · obtain ⟨F, xs, M, Z, QD, mm, r, h, kq, kx⟩ := h
    refine ⟨_, (hb _ A outer s H E rfl hr (passes_of rfl)).ps (takes_of rfl rfl rfl rfl), ?_⟩
    refine ⟨F, startD N xs, M, _, ⟨mm, start_ok N r⟩, (hp A outer s H E xs M Z QD h).2, ⟨fun σ' H' ds' M' st tt q => ?_, kq, fun _ _ _ _ _ _ q => q.elim, fun _ _ _ _ _ _ q => q.elim, kx.ws⟩⟩
    exact kq .non H' .non M' st tt.mm .non q
end
theorem walk_ofTE {l : PySem.W.OpenLaw} {n k : Nat} {q : Program} {loose : List Str} {XP : (Str → Option Value) → Heap → Prop} {YP : World → Heap → Prop} {d : DefRec} {CX : CXT} {x : Str}
    (hn : l.most = some n) (hn2 : n ≤ sizeLine) (hdf : d.params.defaults = []) (hr : Room k callerA)
    (F : ∀ (w : World) (mg : Str → Option Value) (fa : Addr) (h : Heap), YP w h → h.Ns mainGlobals mg → mg d.name = some (.ref fa) →
      ∃ (K : PySem.W.Frag) (fd : FuncData) (c P : Addr) (sp : Sp), K.In h ∧ h.get? P = some { cls := .none, data := .fields #[] } ∧ K.lookup P = none ∧ PySem.W.CodeHd h c P ∧ (∀ (s : Shared) (u : Value), BindsTo s fd ⟨[u], []⟩ [(x, u)]) ∧
        (∀ (H : Hp) (a : Addr) (ns : List Int), ns.length ≤ n → H P = some (.tbl #[]) → SqL K H a (ns.map V.int) → sp [.ref a] H (fun v _ => v = .bl true) fun _ _ _ => False) ∧
        ∀ base : Heap, K.In base → base.Ns mainGlobals mg → LamX.TabB base mg c P → FnOk l.prog w K mg base CX k fa fd [x] sp)
    (hCX : ∀ (H : Hp) (s : Shared) (e : Value) (s' : Shared), CX [] H s (fun _ _ _ => False) e s' → False) :
    PySem.W.WalkO q loose XP YP l.row.toRowW d [] (fun f vs => PySem.call f vs) := by
  refine Att.attach_call hn hdf fun w s₀ s₁ mg mb fa o pm cd doc a vs ns G Y ho hd hcd hmg hobj hints hlen hg => ?_
  obtain ⟨K, fd, c, P, sp, KX, hT, nT, C, hb, hsp, hF⟩ := F w mg fa _ Y G.T.g hmg
  exact LamX.law_callTs (cs := [(c, P)]) KX G.T.g G.T.b G.T.builtins G.T.nolimit hg (fun p hp => by simp at hp; subst hp; exact hT) (fun p hp => by simp at hp; subst hp; exact nT) (fun p hp => by simp at hp; subst hp; exact C) G.T.bmain hobj hints (Nat.le_trans hlen hn2) hr (fun base h1 h2 h3 => hF base h1 h2 (h3 (c, P) (by simp))) hb (fun H hH hS => hsp H a ns hlen (hH (c, P) (by simp)) hS) fun H e s' => hCX H s₁ e s'
end L2.Dl

namespace L2.Dl
open PySem PySem.Spec PyProof.Rows
/-! ### defs that are functions of data: a value or an error -/
abbrev Err := Str × List (Str × D)
abbrev Res := Except Err D
/-- an error with one field, with none -/
def er (C f : Str) (v : D) : Err := (C, [("code", .str C), (f, v)])
def er0 (C : Str) : Err := (C, [("code", .str C)])
def outK (r : Res) (M : MM) (Z : XD) (Q : QD) : Prop := match r with | .ok d => Q d M | .error e => Z e.1 e.2 M
@[simp] theorem outK_ok (d : D) (M : MM) (Z : XD) (Q : QD) : outK (.ok d) M Z Q = Q d M := rfl
@[simp] theorem outK_er (C f : Str) (v : D) (M : MM) (Z : XD) (Q : QD) : outK (.error (er C f v)) M Z Q = Z C [("code", .str C), (f, v)] M := rfl
@[simp] theorem outK_er0 (C : Str) (M : MM) (Z : XD) (Q : QD) : outK (.error (er0 C)) M Z Q = Z C [("code", .str C)] M := rfl
def fnSp (f : List D → Option Res) : SpD := fun xs M Z Q => optK (f xs) fun r => outK r M Z Q
def fnS (f : List D → Option Res) : SpS := fun xs _ M Z Q => fnSp f xs M Z Q
@[simp] theorem ask_fnS (f : List D → Option Res) (xs ys : List D) (M : MM) (Z : XD) (Q : QD) : ask (fnS f) xs ys M Z Q = optK (f xs) fun r => outK r M Z Q := rfl
theorem fnSp_eq (f : List D → Option Res) (xs : List D) (M : MM) (Z : XD) (Q : QD) : fnSp f xs M Z Q = optK (f xs) fun r => outK r M Z Q := rfl
/-! ### a class whose objects do not change behind their making -/
abbrev MkR := Option (Except Err (List (Str × D)))
def iniSp (C : Str) (f : List D → MkR) : SpD := fun xs M Z Q => match xs with
  | .ref p :: rest => M.lookup p = some (.obj C []) ∧ optK (f rest) fun r => match r with
    | .ok fs => Q .non (put M p (.obj C fs))
    | .error e => Z e.1 e.2 M
  | _ => False
def mkO (C : Str) (f : List D → MkR) : List D → Option Res := fun xs => match f xs with
  | some (.ok fs) => some (.ok (.obj C fs))
  | some (.error e) => some (.error e)
  | none => none
theorem iniSp_cases {C : Str} {f : List D → MkR} {xs : List D} {M : MM} {Z : XD} {Q : QD} (h : iniSp C f xs M Z Q) : ∃ p rest r, xs = .ref p :: rest ∧ M.lookup p = some (.obj C []) ∧ f rest = some r ∧ (∀ fs, r = .ok fs → Q .non (put M p (.obj C fs))) ∧ ∀ e, r = .error e → Z e.1 e.2 M := by
  unfold iniSp at h
  split at h
  · rename_i p rest
    obtain ⟨h1, h2⟩ := h
    cases q : f rest with
    | none => rw [q] at h2; exact h2.elim
    | some r =>
      rw [q] at h2
      refine ⟨p, rest, r, rfl, h1, q, fun fs e => ?_, fun e e' => ?_⟩
      · subst e; exact h2
      · subst e'; exact h2
  · exact h.elim
section
variable {X : Cx} {k : Nat} {f : Addr} {ks : List Str} {Cn : Str} {mk : List D → MkR}
theorem ini_frz {xs : List D} {M : MM} {Z : XD} {Q : QD} (h : fnSp (mkO Cn mk) xs M Z Q) (p : Addr) (hp : p ∉ keys M) : iniSp Cn mk (.ref p :: xs) ((p, .obj Cn []) :: M) (fun E fs M3 => Z E fs (drop M3 p)) (fun v M3 => v = .non ∧ optK ((M3.lookup p).bind frzO) fun d => letK (drop M3 p) fun M2 => Q d M2) := by
  refine ⟨look_cons, ?_⟩
  rw [fnSp_eq] at h
  unfold mkO at h
  cases q : mk xs with
  | none => rw [q] at h; exact h.elim
  | some r =>
    rw [q] at h
    cases r with
    | ok fs =>
      have h : Q (.obj Cn fs) M := h
      refine ⟨rfl, ?_⟩
      rw [put_cons hp]
      simp [hp, look_cons]
      exact h
    | error e =>
      have h : Z e.1 e.2 M := h
      show Z e.1 e.2 (drop ((p, .obj Cn []) :: M) p)
      rw [drop_cons hp]
      exact h
/-- C(e, ..) -/
theorem cal_obj (Mk1 : Mk X.K (He.ga X.K Cn) f) (Fn : FnS X.prog X.w X.K X.mg X.base k f [] (fun xs _ M Z Q => iniSp Cn mk xs M Z Q)) (hr : Room (k + 1) X.A) : CalS X (He.ga X.K Cn) [] (fnS (mkO Cn mk)) := by
  intro W tk pins σ H s F M Z us ws vs zs xs ys Q I mm kx r1 r2 hl a b h
  exact cal_frz (cal_mk Mk1 Fn hr) W tk pins σ H s F M Z us ws vs zs xs ys Q I mm kx r1 r2 hl a b fun p hp => ini_frz h p hp
/-- C(e, .., k=e, ..): the arguments of the def are g of both -/
theorem cal_objK {g : List D → List D → List D} (Mk1 : Mk X.K (He.ga X.K Cn) f) (Fn : FnS X.prog X.w X.K X.mg X.base k f ks (fun xs ys M Z Q => match xs with | x :: xs => iniSp Cn mk (x :: g xs ys) M Z Q | [] => False)) (hr : Room (k + 1) X.A) : CalS X (He.ga X.K Cn) ks (fun xs ys M Z Q => fnSp (mkO Cn mk) (g xs ys) M Z Q) := by
  intro W tk pins σ H s F M Z us ws vs zs xs ys Q I mm kx r1 r2 hl a b h
  exact cal_frz (cal_mk Mk1 Fn hr) W tk pins σ H s F M Z us ws vs zs xs ys Q I mm kx r1 r2 hl a b fun p hp => ini_frz h p hp
end
/-! ### actions that are functions of data -/
def fieldE : List (Str × D) → D
  | [_, (_, v)] => v
  | _ => .non
def askD : Res → D
  | .ok d => .tup [.str "", d]
  | .error e => .tup [.str e.1, fieldE e.2]
theorem optK_of {α : Type} {o : Option α} {k : α → Prop} {a : α} (h : o = some a) (q : k a) : optK o k := by rw [h]; exact q
end L2.Dl

namespace L2.Dl
open PySem PySem.Spec PyProof.Rows
/-! ### equality of data, by parts -/
def eqDL : List D → List D → Bool
  | [], [] => true
  | x :: xs, y :: ys => eqD x y && eqDL xs ys
  | _, _ => false
@[simp] theorem eqDL_nil : eqDL [] [] = true := rfl
@[simp] theorem eqDL_cons (x y : D) (xs ys : List D) : eqDL (x :: xs) (y :: ys) = (eqD x y && eqDL xs ys) := rfl
@[simp] theorem eqDL_nc (y : D) (ys : List D) : eqDL [] (y :: ys) = false := rfl
@[simp] theorem eqDL_cn (y : D) (ys : List D) : eqDL (y :: ys) [] = false := rfl
theorem eqL_py : ∀ xs ys : List D, (match toPyL xs, toPyL ys with | some p, some q => PyData.eqvAll p q | _, _ => false) = eqDL xs ys
  | [], [] => by simp [toPyL, PyData.eqvAll]
  | [], y :: ys => by
    simp only [eqDL_nc]
    unfold toPyL
    cases toPy y <;> cases toPyL ys <;> simp [PyData.eqvAll]
  | x :: xs, [] => by
    simp only [eqDL_cn]
    unfold toPyL
    cases toPy x <;> cases toPyL xs <;> simp [PyData.eqvAll]
  | x :: xs, y :: ys => by
    have ih := eqL_py xs ys
    rw [eqDL_cons, ← ih]
    unfold eqD
    rw [toPyL, toPyL]
    cases toPy x <;> cases toPy y <;> cases toPyL xs <;> cases toPyL ys <;> simp [PyData.eqvAll]
theorem eqD_tup (xs ys : List D) : eqD (.tup xs) (.tup ys) = eqDL xs ys := by
  rw [← eqL_py]
  unfold eqD
  rw [toPy, toPy]
  cases toPyL xs <;> cases toPyL ys <;> simp [PyData.eqv]
theorem eqD_lst (xs ys : List D) : eqD (.lst xs) (.lst ys) = eqDL xs ys := by
  rw [← eqL_py]
  unfold eqD
  rw [toPy, toPy]
  cases toPyL xs <;> cases toPyL ys <;> simp [PyData.eqv]
theorem eqD_ss (a b : Str) : eqD (.str a) (.str b) = decide (a = b) := by
  show PyData.eqv (.str a) (.str b) = _
  rw [PyData.eqv]
  exact Bool.beq_eq_decide_eq a b
theorem eqD_ii (a b : Int) : eqD (.int a) (.int b) = decide (a = b) := by
  show PyData.eqv (.int a) (.int b) = _
  rw [PyData.eqv]
  exact Bool.beq_eq_decide_eq a b
theorem eqD_bb (a b : Bool) : eqD (.bl a) (.bl b) = decide (a = b) := by
  show PyData.eqv (.bool a) (.bool b) = _
  rw [PyData.eqv]
  exact Bool.beq_eq_decide_eq a b
theorem eqD_nn : eqD .non .non = true := by
  show PyData.eqv .none .none = _
  rw [PyData.eqv]
theorem eqD_si (a : Str) (b : Int) : eqD (.str a) (.int b) = false := by
  show PyData.eqv (.str a) (.int b) = _
  simp [PyData.eqv]
theorem eqD_is (a : Str) (b : Int) : eqD (.int b) (.str a) = false := by
  show PyData.eqv (.int b) (.str a) = _
  simp [PyData.eqv]
theorem eqD_ns (a : Str) : eqD .non (.str a) = false := by
  show PyData.eqv .none (.str a) = _
  simp [PyData.eqv]
theorem eqD_sn (a : Str) : eqD (.str a) .non = false := by
  show PyData.eqv (.str a) .none = _
  simp [PyData.eqv]
theorem eqD_ni (a : Int) : eqD .non (.int a) = false := by
  show PyData.eqv .none (.int a) = _
  simp [PyData.eqv]
theorem eqD_in (a : Int) : eqD (.int a) .non = false := by
  show PyData.eqv (.int a) .none = _
  simp [PyData.eqv]
theorem eqD_strs : ∀ xs ys : List Str, eqDL (xs.map D.str) (ys.map D.str) = decide (xs = ys)
  | [], [] => rfl
  | [], _ :: _ => rfl
  | _ :: _, [] => rfl
  | x :: xs, y :: ys => by
    show (eqD (.str x) (.str y) && eqDL (xs.map D.str) (ys.map D.str)) = _
    rw [eqD_ss, eqD_strs xs ys]
    by_cases h1 : x = y <;> by_cases h2 : xs = ys <;> simp [h1, h2]
/-- no deeper than n -/
def okN : Nat → D → Bool
  | _, .non => true | _, .bl _ => true | _, .int _ => true | _, .str _ => true
  | n + 1, .lst xs => xs.all (okN n)
  | n + 1, .tup xs => xs.all (okN n)
  | _, _ => false
theorem okN_py : ∀ (n : Nat) (d : D), okN n d = true → ∃ p, toPy d = some p ∧ p.depth ≤ n := by
  intro n
  induction n with
  | zero =>
    intro d h
    cases d <;> first | (cases h; done) | exact ⟨_, rfl, Nat.le_refl _⟩
  | succ n ih =>
    have lst : ∀ xs : List D, xs.all (okN n) = true → ∃ ps, toPyL xs = some ps ∧ PyData.depthAll ps ≤ n := by
      intro xs
      induction xs with
      | nil => intro _; exact ⟨[], rfl, Nat.zero_le _⟩
      | cons x r ihr =>
        intro h
        rw [List.all_cons, Bool.and_eq_true] at h
        obtain ⟨p, e1, h1⟩ := ih x h.1
        obtain ⟨ps, e2, h2⟩ := ihr h.2
        refine ⟨p :: ps, ?_, ?_⟩
        · unfold toPyL
          rw [e1, e2]
        · rw [PyData.depthAll]
          omega
    intro d h
    cases d with
    | lst xs =>
      obtain ⟨ps, e, hd⟩ := lst xs h
      refine ⟨.list ps, ?_, ?_⟩
      · rw [toPy, e]; rfl
      · rw [PyData.depth]; omega
    | tup xs =>
      obtain ⟨ps, e, hd⟩ := lst xs h
      refine ⟨.tuple ps, ?_, ?_⟩
      · rw [toPy, e]; rfl
      · rw [PyData.depth]; omega
    | non => exact ⟨_, rfl, Nat.zero_le _⟩
    | bl b => exact ⟨_, rfl, Nat.zero_le _⟩
    | int b => exact ⟨_, rfl, Nat.zero_le _⟩
    | str b => exact ⟨_, rfl, Nat.zero_le _⟩
    | _ => cases h
theorem okD_N {n : Nat} {d : D} (h : okN n d = true) (hn : n ≤ 64) : okD d = true := by
  obtain ⟨p, e, hd⟩ := okN_py n d h
  unfold okD
  rw [e]
  exact decide_eq_true (by omega)
theorem okN_s (n : Nat) (x : Str) : okN n (.str x) = true := by cases n <;> rfl
theorem okN_i (n : Nat) (x : Int) : okN n (.int x) = true := by cases n <;> rfl
theorem okN_b (n : Nat) (x : Bool) : okN n (.bl x) = true := by cases n <;> rfl
theorem okN_n (n : Nat) : okN n .non = true := by cases n <;> rfl
theorem okN_l (n : Nat) (xs : List D) : okN (n + 1) (.lst xs) = xs.all (okN n) := rfl
theorem okN_t (n : Nat) (xs : List D) : okN (n + 1) (.tup xs) = xs.all (okN n) := rfl
theorem okD_s (x : Str) : okD (.str x) = true := rfl
theorem okD_i (x : Int) : okD (.int x) = true := rfl
theorem okD_b (x : Bool) : okD (.bl x) = true := rfl
theorem okD_n : okD .non = true := rfl
/-! ### a call with keywords of a def without defaults -/
theorem funD_kbN {K : PySem.W.Frag} {x qual : Str} {params : Arguments} {body : List Stmt} {scope : Scope} {kws : List (Str × V)} {f : Addr} {fd : FuncData} {ps : List Str} (F : FunD K x qual params body scope [] kws f fd) (n : Nat) (ks : List Str) (g : {α : Type} → List α → List α → List α)
    (hrel : ∀ {vs zs : List V} {us ws : List Value}, Vals vs us → Vals zs ws → Vals (g vs zs) (g us ws))
    (h : ∀ (kV doc pm : Value) (an : Option Addr) (cdv ct : Value) (us ws : List Value), us.length = n → ws.length = ks.length → bindArgs (PySem.W.fnOf x qual params body scope .none kV doc pm an cdv ct) ⟨us, ks.zip ws⟩ = pure (ps.zip (g us ws))) : KBn K fd ps n ks (fun us ws => g us ws) (fun vs zs => g vs zs) := by
  obtain ⟨oc, od, dV, kV, doc, pm, an, cdv, ct, osl, rfl, lk, hcd, hD, hK⟩ := F.ex
  rcases hD with ⟨_, rfl⟩ | ⟨e, _⟩
  · exact ⟨fun s us ws _ h1 h2 => .of_eq (h kV doc pm an cdv ct us ws h1 h2), hrel⟩
  · exact absurd rfl e
end L2.Dl

namespace L2.Dl
open PySem PySem.Spec PyProof.Rows
/-! ### enumerate(tuple) -/
def tupIt (t : Addr) : Obj := { cls := .type "tuple_iterator", data := .fields #[.ref t, .int 0 0] }
def enuOf (i : Addr) : Obj := { cls := .type "enumerate", data := .fields #[.none, .bool false, .ref i, rawInt 0, .none, .none] }
theorem meets_enuT (t : Addr) (items : Array Value) : Meets (Builtin.«enumerate.__new__» ⟨[.type "enumerate", .ref t], []⟩) (fun _ R s => s.heap.IsTuple t items ∧
    R (.ok (.ret (.ref (s.heap.push (tupIt t)).objs.size))) { s with heap := (s.heap.push (tupIt t)).push (enuOf s.heap.objs.size) }) :=
  .of_wp fun prog w A R s h => by
    obtain ⟨hp, g, d, tk, os⟩ := s
    obtain ⟨hT, h⟩ := h
    have hsub := sub_enumerate
    have fin : ∀ {u : Value}, u = .ref (hp.push (tupIt t)).objs.size → True := fun _ => trivial
    wp_walk
    refine wpAny_stack_any fun z0 => wpAny_pure ?_
    split
    · rename_i cv _ _ _ _ _
      cases (cv == Value.type "enumerate")
      all_goals
        wp_walk using wpAny_pyIter_tuple hT
        exact ⟨_, rfl, h⟩
    · wp_walk using wpAny_pyIter_tuple hT
      exact ⟨_, rfl, h⟩
theorem call_enuT {prog : Program} {w : World} {A : Around} {E : Value → Shared → Prop} {s : Shared} {t : Addr} {items : Array Value} {Q : Value → Shared → Prop} (hT : s.heap.IsTuple t items)
    (h : ∀ h', IsEnum h' (s.heap.objs.size + 1) s.heap.objs.size 0 .none → h'.IsTupleIter s.heap.objs.size t 0 → (∀ b o, s.heap.get? b = some o → h'.get? b = some o) → Q (.ref (s.heap.objs.size + 1)) { s with heap := h' }) :
    wpAny (model prog w) A (call (.type "enumerate") [.ref t]) Q E s := by
  refine callType_new F.called_enumerate (by decide) (F.typeCall_enumerate_1 _) (F.newCall_enumerate_1 _) (fun obj => F.args_object_init_2 obj _) F.entry_enumerate_new (meets_enuT t items) ⟨hT, ?_⟩
  have hz : (s.heap.push (tupIt t)).objs.size = s.heap.objs.size + 1 := Heap.size_push ..
  show _ ∧ _
  rw [hz]
  have he : IsEnum ((s.heap.push (tupIt t)).push (enuOf s.heap.objs.size)) (s.heap.objs.size + 1) s.heap.objs.size 0 .none := by
    have := Heap.get?_push_size (s.heap.push (tupIt t)) (o := enuOf s.heap.objs.size) rfl
    rw [hz] at this
    exact this
  exact ⟨⟨_, he, rfl⟩, h _ he ⟨_, Heap.get?_push_of_some _ (Heap.get?_push_size _ rfl), rfl, rfl⟩ fun b o y => Heap.get?_push_of_some _ (Heap.get?_push_of_some _ y)⟩
def IteT (K : PySem.W.Frag) (a : Addr) : It :=
  ⟨fun i H => ∃ (xs : List V) (x : V), SqT K H a xs ∧ xs[i]? = some x, fun i H v H' => ∃ T x, v = .ref T ∧ H T = none ∧ H' = upd H T (.tup [.int (i : Nat), x]) ∧ ∀ xs, SqT K H a xs → xs[i]? = some x, fun i H => ∃ xs : List V, SqT K H a xs ∧ xs.length ≤ i⟩
theorem turn_enuT {P : Program} {w : World} {K : PySem.W.Frag} {elts : List Expr} {kk : Nat} {tpos : Pos} (a e it : Addr) :
    Turn P w K (.Tuple elts kk tpos) (IteT K a) [e, it] e (fun i h => (∃ old, IsEnum h e it ((i : Nat) : Int) old) ∧ h.IsTupleIter it a i ∧ e ≠ it ∧ a ≠ it ∧ a ≠ e) where
  mem := by simp
  obj := fun i h st b hb => by
    obtain ⟨⟨old, he⟩, ⟨o, ho, hc, hd⟩, _⟩ := st
    rcases (show b = e ∨ b = it by simpa using hb) with z | z
    · exact z ▸ ⟨_, he, fun v q => nomatch q⟩
    · exact z ▸ ⟨o, ho, fun v q => by rw [hd] at q; cases q⟩
  keep := fun i h h' ⟨⟨old, he⟩, hi, hne⟩ k => ⟨⟨old, k e (by simp) _ he⟩, hi.at (fun o q => k it (by simp) o q), hne⟩
  item := by
    intro X hP hw hK hc i pins s σ H E I hf st hg
    subst hP hw hK
    obtain ⟨⟨old, he⟩, hit, hne, hai, hae⟩ := st
    obtain ⟨xs, x, hq, hx⟩ := hg
    obtain ⟨its, rv, p, hz⟩ := I.tuple hq
    obtain ⟨u, hu, ru⟩ := rv.get hx
    have hel : e < s.heap.objs.size := Heap.lt_size he
    have hil : it < s.heap.objs.size := by obtain ⟨_, q, _⟩ := hit; exact Heap.lt_size q
    have hlt : i < its.toArray.size := by
      have := List.getElem?_eq_some_iff.mp hu
      simpa using this.1
    refine wpAny_pyNext_enum_itemD (Draws.tuple (show X.A.in1.handled = none from I.ok.hd hc) it a hai its.toArray) he ⟨hit, p⟩ hlt hne (by simp [hne, Ne.symm hae]) fun x' h' tk hx' ho st' hT hsz hk => ?_
    have exu : x' = u := by
      rw [show its.toArray[i]? = its[i]? by simp, hu] at hx'
      exact (Option.some.inj hx').symm
    subst exu
    refine ⟨_, rfl, wpAny_letOwnedTupleGo_enum (s := { s with heap := h', toks := tk + 1 }) ho fun h'' he' sb => ?_⟩
    have hT2 : h''.get? s.heap.objs.size = some { cls := .type "tuple", data := .seq #[.int i tk, x'] } := (sb.2 _ (Nat.ne_of_gt hel)).trans hT
    have new : ObjOk X.prog X.w (upd H s.heap.objs.size (.tup [.int (i : Nat), x])) h'' s.heap.objs.size (.tup [.int (i : Nat), x]) :=
      ⟨(by show 2 ≤ sizeLine; decide), [.int i tk, x'], .cons ⟨_, rfl⟩ (.cons ru .nil), ⟨_, hT2, rfl, _, rfl⟩⟩
    have I1 : Inv X pins σ (upd H s.heap.objs.size (.tup [.int (i : Nat), x])) { s with heap := h'', toks := tk + 1 } :=
      I.turnedNew (ch := [e, it]) (fun b ob hb q => (sb.2 b fun z => hb (by simp [z])).trans (hk b ob (fun z => hb (by simp [z])) (fun z => hb (by simp [z])) q)) hf (Nat.le_refl _) new
    refine ⟨.ref s.heap.objs.size, _, I1, rfl, ⟨_, x, rfl, I.hok.fresh (Nat.le_refl _), rfl, fun ys hy => by rw [I.tuple_inj hy hq]; exact hx⟩, ⟨⟨x', ?_⟩, st'.1.at (fun o q => (sb.2 it hne.symm).trans q), hne, hai, hae⟩, fun b hb => ?_⟩
    · have e1 : ((i + 1 : Nat) : Int) = (i : Int) + 1 := Int.natCast_succ i
      rw [e1]; exact he'
    · have hb' : b < s.heap.objs.size := by
        rcases (show b = e ∨ b = it by simpa using hb) with z | z
        · exact z ▸ hel
        · exact z ▸ hil
      rw [upd_ne (Nat.ne_of_lt hb')]
      exact (hf b hb).1
  done := by
    intro X hP hw hK hc i pins s σ H E I hf st hg
    subst hP hw hK
    obtain ⟨⟨old, he⟩, hit, hne, hai, hae⟩ := st
    obtain ⟨xs, hq, hx⟩ := hg
    obtain ⟨its, rv, p, hz⟩ := I.tuple hq
    obtain ⟨f0, f1, f2, f3, f4, f5⟩ := hf it (by simp)
    have hl := rv.length
    have D := Draws.tuple (prog := X.prog) (w := X.w) (show X.A.in1.handled = none from I.ok.hd hc) it a hai its.toArray
    have hend : its.toArray[i]? = none := by simp; omega
    have hT : s.TypeIs (.ref e) "enumerate" := ⟨_, he, rfl⟩
    unfold pyNext
    refine wpAny_bind (wpAny_attempt (wpAny_callSpecial?_slot (name := Str.ofString "__next__") hT F.slot_enumerate_next (wpAny_call_entry F.slot_enumerate_next hT F.entry_enumerate_next ?_ (F.args_enumerate_next_1 _))))
    show wpAny _ _ (field (.ref e) 2 >>= _) _ _ _
    refine wpAny_bind (wpAny_field he rfl (x := .ref it) rfl (wpAny_bind (wpAny_nextOf_tuple_end (show X.A.in1.handled = none from I.ok.hd hc) hit p hend fun h' x he' hx' => ?_)))
    obtain ⟨o, ho, hco⟩ := hx'
    refine wpAny_bind (wpAny_isInstance (T := "StopIteration") (b := true) ⟨o, ho, hco⟩ isSubtype_stop (wpAny_pure ?_))
    exact ⟨rfl, I.turned (t' := s.toks) (fun b o hb q => he' b o hb q) f0 f1 f3 f4 f5⟩
  self := fun A i s Q E ⟨⟨_, he⟩, _⟩ h => wpAny_pyIter_enum he h
def iEnuT (K : PySem.W.Frag) (ta : TA) : TI := fun σ H R => ta σ H fun vs H1 => ∃ a xs, vs = [.ref a] ∧ SqT K H1 a xs ∧ R (IteT K a) H1
theorem pi_enuT {X : Cx} {e : Expr} {ta : TA} {p pos tpos : Pos} {elts : List Expr} {kk : Nat} (hg : Gl X "enumerate") (hm : X.mg "enumerate" = none) (ha : PA X [e] ta) (hs : starEach [e] X.env = [(false, eval e X.env)] := by rfl) :
    PI X (.Tuple elts kk tpos) (.Call (.Name "enumerate" p) [e] [] pos) (iEnuT X.K ta) := by
  refine ⟨fun pins s σ H R I h => ?_⟩
  refine Call_ (ld_blt I hg hm boot_enumerate (PyProof.Rows.callWith_type1 (thn (ha.run pos pins s σ H _ I h) fun us s1 ⟨vs, H1, I1, r1, q1⟩ => ?_) hs rfl))
  obtain ⟨a, xs, rfl, hq, q⟩ := q1
  cases r1 with
  | cons r rr =>
    cases rr
    cases r
    obtain ⟨its, rv, p', hz⟩ := I1.tuple hq
    have hal : a < s1.heap.objs.size := by obtain ⟨o, e1, _⟩ := p'; exact Heap.lt_size e1
    refine call_enuT p' fun h' he hit hk => wpAny_pyIter_enum he ?_
    have I2 : Inv X pins σ H1 { s1 with heap := h' } := I1.kept (t' := s1.toks) hk
    refine ⟨s1.heap.objs.size + 1, [s1.heap.objs.size + 1, s1.heap.objs.size], _, _, H1, rfl, I2, turn_enuT a (s1.heap.objs.size + 1) s1.heap.objs.size, ⟨⟨.none, he⟩, hit, Nat.succ_ne_self _, Nat.ne_of_lt hal, Nat.ne_of_lt (Nat.lt_succ_of_lt hal)⟩, fun b hb => ?_, q⟩
    have hle : s1.heap.objs.size ≤ b := by
      rcases (show b = s1.heap.objs.size + 1 ∨ b = s1.heap.objs.size by simpa using hb) with z | z
      · exact z ▸ Nat.le_add_right _ _
      · exact z ▸ Nat.le_refl _
    exact I1.fpOk hle (I1.hok.fresh hle)
theorem walkd_enuT {K : PySem.W.Frag} {F : List Addr} {H : Hp} {M : MM} {a : Addr} {vs : List V} {xs : List D} (h : BT K (ak F M) H a vs) (r : RepA K (ak F M) H vs xs) : WalkD K F (IteT K a) H M (enumd 0 xs) := by
  refine ⟨fun F' i H' B hi s => ?_, fun F' H' B s => ?_, fun F' i H' M' x H2 hi s mm y => ?_⟩
  · rw [enumd_len] at hi
    have hv : i < vs.length := by rw [r.len]; exact hi
    exact ⟨vs, vs[i], (s.bt h).sq, by simp [hv]⟩
  · exact ⟨vs, (s.bt h).sq, by rw [enumd_len, r.len]; exact Nat.le_refl _⟩
  · obtain ⟨T, x, rfl, hT, rfl, y1⟩ := y
    obtain ⟨d, h3, h4⟩ := r.getV (y1 vs (s.bt h).sq)
    obtain ⟨s1, s2, s3⟩ := pair_new mm hT (.int _) (h4.step s)
    exact ⟨s1, s2, _, by rw [enumd_get h3]; simp, s3⟩
section
variable {X : Cx} {tg e e2 : Expr} {te : TD} {pos : Pos}
def iEnumT (t : TD) : TID := fun ds M Z Q => dCons t dNil ds M Z fun zs M1 => match zs with | [.tup xs] => Q (enumd 0 xs) M1 | _ => False
@[simp ↓] theorem iEnumT_eq (t : TD) : ∀ ds M Z Q, iEnumT t ds M Z Q = (dCons t dNil ds M Z fun zs M1 => match zs with | [.tup xs] => Q (enumd 0 xs) M1 | _ => False) := fun _ _ _ _ => rfl
theorem i_enumT {p tpos : Pos} {elts : List Expr} {kk : Nat} (hm : X.mg "enumerate" = none) (h : PD X e te) (hg : Gl X "enumerate" := by rfl) (hs : notStar e = true := by rfl) : PID X (.Tuple elts kk tpos) (.Call (.Name "enumerate" p) [e] [] pos) (iEnumT te) := by
  refine ⟨fun W tk => ?_⟩
  refine ⟨_, pi_enuT hg hm ((ad_cons h ad_nil hs).pa tk) (star_one hs), fun F σ H ds M Z QI hst ht RV k => ?_⟩
  refine ⟨F, ds, M, _, _, hst, ht, fun vs H1 xs M1 st mm rp q => ?_⟩
  match xs, rp, q with
  | [.tup ys], rp, q =>
    obtain ⟨v, rfl, r⟩ := repA1 rp
    cases r with
    | tup hx r => exact ⟨_, _, rfl, hx.sq, k _ H1 _ M1 st mm (walkd_enuT hx r) q⟩
end
end L2.Dl

namespace L2.Dl
open PySem PySem.Spec PyProof.Rows
/-! ### own dunders whose errors are told -/
section
variable {X : Cx} {pins : List (Addr × Obj)} {σ : L2.St} {H : Hp} {s : Shared} {F : List Addr} {M : MM} {Z : XD} {W : WX} {k : Nat} {f : Addr} {sp : SpS}
theorem run_inZ {A' : Around} {us : List Value} {vs : List V} {xs : List D} {Q : QD} (tk : Takes X W) (Fn : FnS X.prog X.w X.K X.mg X.base k f [] sp) (hr : Room k A') (e0 : Env0 X.prog X.w X.K X.mg X.base A' X.stack s H) (I : Inv X pins σ H s) (mm : RMM X.K F H M) (kx : KW X.K F H M σ Z W) (r1 : Vals vs us)
    (a : RepA X.K (ak F M) H vs xs) (h : sp xs [] M Z Q) : wpAny (model X.prog X.w) A' (call (.ref f) us) (EPD X F pins σ H M Q) X.xe s := by
  refine wpAny_call (codeAny_mono (Fn A' X.stack s H us [] vs [] F xs [] M Z Q (EQ X.K F H M Q) (fun c d H' => W c d σ H') hr e0 r1 .nil rfl mm a .nil h KQ.eq fun C fs vs d H' M' st mm' e n r q => kx C fs vs d H' M' st mm' e n r q) fun r s' hq => ?_)
  cases r with
  | error e => exact tk e s' (XE.of_call I (fun _ _ _ z => z) hq)
  | ok fl =>
    cases fl with
    | ret u =>
      obtain ⟨v, H', I', rv, d, M', st, mm', rp, q⟩ := I.after hq
      exact ⟨v, H', d, M', I', rv, st, mm', rp, q⟩
    | next => exact False.elim hq
    | brk => exact False.elim hq
    | cont => exact False.elim hq
end
/-- x[i] by an own __getitem__ -/
def dGetO (C : Str) (sp : SpS) (ta tb : TD) : TD := fun ds M Z Q => ta ds M Z fun o M1 => tb ds M1 Z fun i M2 => optK (clsOf o M2) fun c => c.1 = C ∧ ask sp [o, i] [] M2 Z Q
@[simp ↓] theorem dGetO_eq (C : Str) (sp : SpS) (ta tb : TD) : ∀ ds M Z Q, dGetO C sp ta tb ds M Z Q = (ta ds M Z fun o M1 => tb ds M1 Z fun i M2 => optK (clsOf o M2) fun c => c.1 = C ∧ ask sp [o, i] [] M2 Z Q) := fun _ _ _ _ => rfl
/-- x + y by an own method, y of the same class -/
def dOpO (C : Str) (sp : SpS) (ta tb : TD) : TD := fun ds M Z Q => ta ds M Z fun x M1 => tb ds M1 Z fun y M2 => optK (clsOf x M2) fun c => c.1 = C ∧ optK (clsOf y M2) fun c' => c'.1 = C ∧ ask sp [x, y] [] M2 Z Q
@[simp ↓] theorem dOpO_eq (C : Str) (sp : SpS) (ta tb : TD) : ∀ ds M Z Q, dOpO C sp ta tb ds M Z Q = (ta ds M Z fun x M1 => tb ds M1 Z fun y M2 => optK (clsOf x M2) fun c => c.1 = C ∧ optK (clsOf y M2) fun c' => c'.1 = C ∧ ask sp [x, y] [] M2 Z Q) := fun _ _ _ _ => rfl
section
variable {X : Cx} {a b : Expr} {ta tb : TD} {pos : Pos} {C : Str} {g : Addr} {k : Nat} {sp : SpS} {op : Operator}
def getB (C : Str) (K : PySem.W.Frag) : Bool := He.eqO (PySem.W.findIn K (.ref (He.ga K C)) "__getitem__") (some (some (.ref (He.fAd K (C, some "__getitem__"))))) && (PySem.W.isFn K (.ref (He.fAd K (C, some "__getitem__"))) && PySem.W.fnIn K (He.fAd K (C, some "__getitem__")))
structure GetF (K : PySem.W.Frag) (C : Str) (g : Addr) : Prop where
  at_ : PySem.W.findIn K (.ref (He.ga K C)) "__getitem__" = some (some (.ref g))
  fn : PySem.W.isFn K (.ref g) = true
  fi : PySem.W.fnIn K g = true
theorem getB_ok {K : PySem.W.Frag} (h : getB C K = true) : GetF K C (He.fAd K (C, some "__getitem__")) := by
  unfold getB at h
  simp only [Bool.and_eq_true] at h
  exact ⟨He.eqO_ok h.1, h.2.1, h.2.2⟩
theorem d_getO (q : GetF X.K C g) (Fn : FnS X.prog X.w X.K X.mg X.base k g [] sp) (hr : Room (k + 1) X.A) (ha : PD X a ta) (hb : PD X b tb) (hsl : ∀ x i, subscripted b true (.ref x) i = runValue (.builtin "lifetime.subscript" ⟨[.ref x, i], []⟩) := by intro _ _; with_unfolding_all rfl) : PD X (.Subscript a b pos) (dGetO C sp ta tb) := by
  refine ⟨fun W tk F pins s σ H ds M Z Q I hs ht => Subscript_ (thn (ha.run W tk F pins s σ H ds M Z _ I hs ht) fun v s1 ⟨x, H1, d1, M1, I1, r1, st1, mm1, rp1, q1⟩ => thn (hb.run W tk F pins s1 σ H1 ds M1 Z _ I1 (hs.to st1 mm1) q1) fun u s2 ⟨y, H2, d2, M2, I2, r2, st2, mm2, rp2, q2⟩ => ?_)⟩
  obtain ⟨⟨C', fs⟩, e1, hC, h⟩ := optK_ex q2
  have hC : C' = C := hC
  subst hC
  have rp1' := rp1.step st2.fix
  obtain ⟨ax, od, ox, rfl, rfl, J⟩ := obj_at I2 mm2 rp1' r1 e1
  obtain ⟨m, hF⟩ := I2.fr
  refine PySem.W.sub_K hF I2.ok.mod.kin J q.at_ q.fi q.fn (thn (run_inZ tk Fn hr.in1 I2.env0.in1 I2 mm2 ((hs.kx.on st1).on st2) (us := [.ref ax, u]) (vs := [.ref ax, y]) (.cons rfl (.cons r2 .nil)) (.cons rp1' (.cons rp2 .nil)) h) fun w s' hw => ?_) (hsl _ _)
  exact EPD.up (st1.trans st2) hw
def binB (C : Str) (m : Str) (K : PySem.W.Frag) : Bool := He.eqO (PySem.W.findIn K (.ref (He.ga K C)) m) (some (some (.ref (He.fAd K (C, some m))))) && (PySem.W.isFn K (.ref (He.fAd K (C, some m))) && PySem.W.selfFirst K (He.ga K C))
structure BinF (K : PySem.W.Frag) (C m : Str) (g : Addr) : Prop where
  at_ : PySem.W.findIn K (.ref (He.ga K C)) m = some (some (.ref g))
  fn : PySem.W.isFn K (.ref g) = true
  sf : PySem.W.selfFirst K (He.ga K C) = true
theorem binB_ok {K : PySem.W.Frag} {m : Str} (h : binB C m K = true) : BinF K C m (He.fAd K (C, some m)) := by
  unfold binB at h
  simp only [Bool.and_eq_true] at h
  exact ⟨He.eqO_ok h.1, h.2.1, h.2.2⟩
theorem back_of {K : PySem.W.Frag} {pins : List (Addr × Obj)} {σ : L2.St} {H : Hp} {F : List Addr} {M : MM} {Q : QD} {w : Value} {s' : Shared} (hw : EPD X F pins σ H M Q w s') : PySem.W.CmpBack (EPD X F pins σ H M Q) w s' := by
  obtain ⟨v, H', d, M', I', rv, st, mm', rp, q⟩ := hw
  cases w with
  | notImplemented => cases v <;> first | exact nomatch rv | (obtain ⟨_, z⟩ := rv; cases z)
  | _ => exact ⟨v, H', d, M', I', rv, st, mm', rp, q⟩
theorem d_opO (q : BinF X.K C (PySem.dunder op.info.2) g) (Fn : FnS X.prog X.w X.K X.mg X.base k g [] sp) (hr : Room k X.A) (ha : PD X a ta) (hb : PD X b tb) : PD X (.BinOp a op b pos) (dOpO C sp ta tb) := by
  refine ⟨fun W tk F pins s σ H ds M Z Q I hs ht => wpAny_BinOp (thn (ha.run W tk F pins s σ H ds M Z _ I hs ht) fun v s1 ⟨x, H1, d1, M1, I1, r1, st1, mm1, rp1, q1⟩ => thn (hb.run W tk F pins s1 σ H1 ds M1 Z _ I1 (hs.to st1 mm1) q1) fun u s2 ⟨y, H2, d2, M2, I2, r2, st2, mm2, rp2, q2⟩ => ?_)⟩
  obtain ⟨⟨C', fs⟩, e1, hC, h⟩ := optK_ex q2
  have hC : C' = C := hC
  subst hC
  obtain ⟨⟨C2, fs2⟩, e2, hC2, h3⟩ := optK_ex h
  have hC2 : C2 = C' := hC2
  subst hC2
  have rp1' := rp1.step st2.fix
  obtain ⟨ax, od, ox, rfl, rfl, J⟩ := obj_at I2 mm2 rp1' r1 e1
  obtain ⟨ay, od2, ox2, rfl, rfl, J2⟩ := obj_at I2 mm2 rp2 r2 e2
  obtain ⟨m, hF⟩ := I2.fr
  refine PySem.W.binop_K hF I2.ok.mod.kin J J2.type q.sf q.at_ q.fn (thn (run_inZ tk Fn hr I2.env0 I2 mm2 ((hs.kx.on st1).on st2) (us := [.ref ax, .ref ay]) (vs := [.ref ax, .ref ay]) (.cons rfl (.cons rfl .nil)) (.cons rp1' (.cons rp2 .nil)) h3) fun w s' hw => ?_)
  exact back_of (K := X.K) (EPD.up (st1.trans st2) hw)
/-- y in x by an own __contains__ -/
def dOwnIn (C : Str) (sp : SpS) (g : Bool → Bool) : R2D := fun x y M Q => optK (clsOf y M) fun c => c.1 = C ∧ ask sp [y, x] [] M X0 fun d M' => optK (blD d) fun b => Q (.bl (g b)) M'
@[simp ↓] theorem dOwnIn_eq (C : Str) (sp : SpS) (g : Bool → Bool) : ∀ x y M Q, dOwnIn C sp g x y M Q = (optK (clsOf y M) fun c => c.1 = C ∧ ask sp [y, x] [] M X0 fun d M' => optK (blD d) fun b => Q (.bl (g b)) M') := fun _ _ _ _ => rfl
theorem c_ownIn (q : Meth X.K (He.ga X.K C) "__contains__" g) (Fn : FnS X.prog X.w X.K X.mg X.base k g [] sp) (hr : Room k X.A) : OpD X (compareOp .In) (dOwnIn C sp id) := by
  refine opD_own fun pins s σ H x y v u QV I rx ry hq => ?_
  obtain ⟨F, M, dx, dy, Q, mm, rpx, rpy, h0, kq⟩ := hq
  obtain ⟨⟨C', fs⟩, e1, hC, h1⟩ := optK_ex (show optK (clsOf dy M) _ from h0)
  have hC : C' = C := hC
  subst hC
  obtain ⟨ay, od, ox, rfl, rfl, J⟩ := obj_at I mm rpy ry e1
  obtain ⟨m, hF⟩ := I.fr
  refine PySem.W.in_K hF I.ok.mod.kin J q.at_ q.fn (thn (run_in Fn hr I.env0 I mm (us := [.ref ay, v]) (vs := [.ref ay, x]) (.cons rfl (.cons rx .nil)) (.cons rpy (.cons rpx .nil)) h1) fun w s' hw => ?_)
  obtain ⟨z, H', d, M', I', rv, st, mm', rp, hb0⟩ := hw
  obtain ⟨b, eb, hb⟩ := optK_bl hb0
  subst eb
  obtain rfl := rep_bl rp rv
  exact wpAny_truthy_bool ⟨.bl b, H', I', rfl, kq _ _ _ _ st mm' (.bl b) hb⟩
theorem c_ownNotIn (q : Meth X.K (He.ga X.K C) "__contains__" g) (Fn : FnS X.prog X.w X.K X.mg X.base k g [] sp) (hr : Room k X.A) : OpD X (compareOp .NotIn) (dOwnIn C sp not) := by
  refine opD_own fun pins s σ H x y v u QV I rx ry hq => ?_
  obtain ⟨F, M, dx, dy, Q, mm, rpx, rpy, h0, kq⟩ := hq
  obtain ⟨⟨C', fs⟩, e1, hC, h1⟩ := optK_ex (show optK (clsOf dy M) _ from h0)
  have hC : C' = C := hC
  subst hC
  obtain ⟨ay, od, ox, rfl, rfl, J⟩ := obj_at I mm rpy ry e1
  obtain ⟨m, hF⟩ := I.fr
  refine PySem.W.notIn_K hF I.ok.mod.kin J q.at_ q.fn (thn (run_in Fn hr I.env0 I mm (us := [.ref ay, v]) (vs := [.ref ay, x]) (.cons rfl (.cons rx .nil)) (.cons rpy (.cons rpx .nil)) h1) fun w s' hw => ?_)
  obtain ⟨z, H', d, M', I', rv, st, mm', rp, hb0⟩ := hw
  obtain ⟨b, eb, hb⟩ := optK_bl hb0
  subst eb
  obtain rfl := rep_bl rp rv
  exact wpAny_truthy_bool ⟨.bl (!b), H', I', rfl, kq _ _ _ _ st mm' (.bl _) hb⟩
/-- len(x) by an own __len__ -/
def intD : D → Option Int
  | .int b => some b
  | _ => none
@[simp] theorem intD_int (b : Int) : intD (.int b) = some b := rfl
def dLenO (C : Str) (sp : SpS) : RCD := fun xs M Q => match xs with
  | [x] => optK (clsOf x M) fun c => c.1 = C ∧ ask sp [x] [] M X0 fun d M' => optK (intD d) fun n => 0 ≤ n ∧ n < 2 ^ 63 ∧ Q (.int n) M'
  | _ => False
@[simp ↓] theorem dLenO_eq (C : Str) (sp : SpS) : ∀ xs M Q, dLenO C sp xs M Q = (match xs with
  | [x] => optK (clsOf x M) fun c => c.1 = C ∧ ask sp [x] [] M X0 fun d M' => optK (intD d) fun n => 0 ≤ n ∧ n < 2 ^ 63 ∧ Q (.int n) M'
  | _ => False) := fun _ _ _ => rfl
theorem k_lenO (me : Meth X.K (He.ga X.K C) "__len__" g) (Fn : FnS X.prog X.w X.K X.mg X.base k g [] sp) (hr : Room (k + 1) X.A) : CallD X (.builtin "len") (dLenO C sp) := by
  refine callD_own fun pins s σ H vs us QV I rv hq => ?_
  obtain ⟨F, M, xs, Q, mm, rp, h0, kq⟩ := hq
  unfold dLenO at h0
  split at h0
  · rename_i x
    obtain ⟨⟨C', fs⟩, e1, hC, h⟩ := optK_ex h0
    clear h0
    have hC : C' = C := hC
    subst hC
    cases rp with
    | cons rpx rn =>
      cases rn
      cases rv with
      | cons rx rn =>
        cases rn
        obtain ⟨a, od, ox, rfl, rfl, J⟩ := obj_at I mm rpx rx e1
        obtain ⟨m, hF⟩ := I.fr
        refine PySem.W.len_K hF I.ok.mod.kin J me.at_ me.fn (thn (run_in Fn hr.in1 I.env0.in1 I mm (us := [.ref a]) (vs := [.ref a]) (.cons rfl .nil) (.cons rpx .nil) h) fun w s' hw => ?_)
        obtain ⟨z, H', d, M', I', rv, st, mm', rp, hy0⟩ := hw
        cases d with
        | int n =>
          have hy0 : 0 ≤ n ∧ n < 2 ^ 63 ∧ Q (.int n) M' := hy0
          cases rp
          obtain ⟨t, rfl⟩ := rv
          exact ⟨⟨hy0.1, hy0.2.1⟩, .int n, H', I'.tok _, ⟨_, rfl⟩, kq _ _ _ _ st mm' (.int n) hy0.2.2⟩
        | _ => exact (show False from hy0).elim
  · exact h0.elim
end
end L2.Dl

namespace L2.Dl
open PySem PySem.Spec PyProof.Rows
/-! ### constants of classes -/
def cintB (C m : Str) (n : Int) (K : PySem.W.Frag) : Bool := PySem.W.readsIn K (He.ga K C) (.type "type") && (match PySem.W.findCls K (.ref (He.ga K C)) (.type "type") m with
  | some (.val (.int k _)) => decide (k = n)
  | _ => false)
def ctupB (C m : Str) (ds : List Str) (K : PySem.W.Frag) : Bool := PySem.W.readsIn K (He.ga K C) (.type "type") && (match PySem.W.findCls K (.ref (He.ga K C)) (.type "type") m with
  | some (.val (.ref a)) => (match K.lookup a with
    | some ⟨.type c, _, .seq its _, _⟩ => decide (c = "tuple") && (decide (its.size ≤ sizeLine) && He.relAll ((ds.map He.Dv.str).map (He.Dv.v K)) its.toList)
    | _ => false)
  | _ => false)
section
variable {X : Cx} {C m : Str} {p pos : Pos}
/-- C.m, an int -/
theorem d_cint {n : Int} (hm : X.mg C = some (.ref (He.ga X.K C))) (h : cintB C m n X.K = true) (hg : Gl X C := by rfl) (hdb : (C == ("__debug__" : Str)) = false := by decide) : PD X (.Attribute (.Name C p) m pos) (dC (.int n)) := by
  refine ⟨fun W tk F pins s σ H ds M Z Q I hs ht => ?_⟩
  unfold cintB at h
  obtain ⟨hr, h3⟩ := Bool.and_eq_true_iff.mp h
  clear h
  have h := h3
  refine Attribute_name (thn ((pe_glob (pos := p) (v := .ref (He.ga X.K C)) hg hm rfl hdb).run pins s σ H (fun v H1 => v = .ref (He.ga X.K C) ∧ H1 = H) I ⟨rfl, rfl⟩) fun u s1 ⟨v, H1, I1, r1, q1⟩ => ?_)
  obtain ⟨rfl, rfl⟩ := q1
  obtain rfl : u = Value.ref (He.ga X.K C) := r1
  split at h
  · rename_i k t e
    have hk := of_decide_eq_true h
    subst hk
    exact PySem.W.cls_value I1.kIn hr e rfl ⟨.int k, H1, .int k, M, I1.tok _, ⟨_, rfl⟩, .refl _ _, hs.mm, .int k, ht⟩
  · cases h
/-- C.m, a tuple of texts -/
theorem d_ctup {es : List Str} (hm : X.mg C = some (.ref (He.ga X.K C))) (h : ctupB C m es X.K = true) (ok : es.all PyData.strOk = true) (hg : Gl X C := by rfl) (hdb : (C == ("__debug__" : Str)) = false := by decide) : PD X (.Attribute (.Name C p) m pos) (dC (.tup (es.map D.str))) := by
  refine ⟨fun W tk F pins s σ H ds M Z Q I hs ht => ?_⟩
  unfold ctupB at h
  obtain ⟨hr, h3⟩ := Bool.and_eq_true_iff.mp h
  clear h
  have h := h3
  refine Attribute_name (thn ((pe_glob (pos := p) (v := .ref (He.ga X.K C)) hg hm rfl hdb).run pins s σ H (fun v H1 => v = .ref (He.ga X.K C) ∧ H1 = H) I ⟨rfl, rfl⟩) fun u s1 ⟨v, H1, I1, r1, q1⟩ => ?_)
  obtain ⟨rfl, rfl⟩ := q1
  obtain rfl : u = Value.ref (He.ga X.K C) := r1
  split at h
  · rename_i a e
    split at h
    · rename_i c od its tk2 sl ek
      simp only [Bool.and_eq_true, decide_eq_true_eq] at h
      obtain ⟨hc, hz, hrel⟩ := h
      subst hc
      have kt : KT X.K a (es.map V.str) := by
        have e2 : (es.map He.Dv.str).map (He.Dv.v X.K) = es.map V.str := by rw [List.map_map]; rfl
        rw [e2] at hrel
        exact ⟨_, its, tk2, ek, rfl, rfl, hz, He.relAll_ok hrel⟩
      exact PySem.W.cls_value I1.kIn hr e rfl ⟨.ref a, H1, .tup (es.map D.str), M, I1.tok _, rfl, .refl _ _, hs.mm, .tup (.inr kt) (repA_strs es ok), ht⟩
    · cases h
  · cases h
end
/-! ### f(*xs, *ys) -/
section
variable {X : Cx} {g : Addr} {sp : SpS} {x : Str} {e e2 : Expr} {es : List Expr} {t : TAD} {p pos p1 : Pos}
theorem evalArgs_stars {M : Model} {A : Around} {E : Value → Shared → Prop} {s : Shared} {f : Value} {a b : Sem Value} {rest : List (Bool × Sem Value)} {y : Bool} {Q : Args → Shared → Prop}
    (h : wpAny M A (spliced ((true, a) :: (y, b) :: rest)) (fun vs s' => Q ⟨vs, []⟩ s') E s) : wpAny M A (evalArgs f true ((true, a) :: (y, b) :: rest) []) Q E s := by
  unfold evalArgs
  show wpAny M A (spliced ((true, a) :: (y, b) :: rest) >>= _) Q E s
  exact wpAny_bind (wpAny_mono h (fun vs s' h' => wpAny_holding (wpAny_bind (wpAny_pure (wpAny_bind (wpAny_pure (wpAny_pure h')))))) fun _ _ x => x)
def isStar : Expr → Option Expr
  | .Starred e _ => some e
  | _ => none
theorem star_two {env : Env} : ∃ (y : Bool) (b : Sem Value) (r : List (Bool × Sem Value)), starEach (.Starred e p1 :: e2 :: es) env = (true, eval e env) :: (y, b) :: r := by
  have h0 : starEach (.Starred e p1 :: e2 :: es) env = (true, eval e env) :: starEach (e2 :: es) env := by simp [starEach]
  by_cases h : notStar e2 = true
  · exact ⟨_, _, _, by rw [h0, star_cons h]⟩
  · cases e2 with
    | Starred v q => exact ⟨true, eval v env, starEach es env, by rw [h0]; simp [starEach]⟩
    | _ => exact absurd rfl h
theorem d_callSS (Cl : CalS X g [] sp) (hk : PySem.W.keepIn X.K (.ref g) = true) (hm : X.mg x = some (.ref g)) (ha : PAD X (.Starred e p1 :: e2 :: es) t) (hg : Gl X x := by rfl) (hdb : (x == ("__debug__" : Str)) = false := by decide) : PD X (.Call (.Name x p) (.Starred e p1 :: e2 :: es) [] pos) (dCallS sp t dNil) := by
  refine ⟨fun W tks F pins s σ H ds M Z Q I hs ht => ?_⟩
  refine wpAny_Call_Name_kw (ld_glob I hg hm ?_ hdb)
  obtain ⟨y, b, r, hst⟩ := star_two (e := e) (e2 := e2) (es := es) (p1 := p1) (env := X.env)
  have main := thn (ha.run W tks pos F pins s σ H ds M Z _ I hs ht) fun us s1 ⟨vs, H1, xs, M1, I1, r, st, mm, rp, q⟩ => (⟨I1.kIn, thn (Cl W tks pins σ H1 s1 F M1 Z us [] vs [] xs [] Q I1 mm (hs.kx.on st) r .nil rfl rp .nil q) fun u s' h => EPD.up st h⟩ : X.K.In s1.heap ∧ wpAny (model X.prog X.w) X.A (call (.ref g) us) (EPD X F pins σ H M Q) X.xe s1)
  show wpAny _ _ (callWith pos (.ref g) [] (backTo pos (starEach (.Starred e p1 :: e2 :: es) X.env)) []) _ _ s
  rw [hst] at main ⊢
  exact PySem.W.ks_call rfl (PySem.W.keeps_K hk) (evalArgs_stars main)
end
/-! ### dicts with keys that are ints or texts -/
def keyD : D → Option Key
  | .int i => some (.inl i)
  | .str x => some (.inr x)
  | _ => none
@[simp] theorem keyD_int (i : Int) : keyD (.int i) = some (.inl i) := rfl
@[simp] theorem keyD_str (i : Str) : keyD (.str i) = some (.inr i) := rfl
def putKD (kvs : List (Key × D)) (k : Key) (v : D) : List (Key × D) :=
  if (kvs.any fun kv => decide (kv.1 = k)) = true then kvs.map (fun kv => if kv.1 = k then (kv.1, v) else kv) else kvs ++ [(k, v)]
def valD (kvs : List (Key × D)) (k : Key) : Option D := (kvs.find? fun kv => decide (kv.1 = k)).map (·.2)
theorem RepF.app {K : PySem.W.Frag} {B : List Addr} {H : Hp} {vs ws : List (Key × V)} {ds es : List (Key × D)} (h : RepF K B H Key vs ds) (h2 : RepF K B H Key ws es) : RepF K B H Key (vs ++ ws) (ds ++ es) := by
  induction vs generalizing ds with
  | nil => cases h; exact h2
  | cons v vs ih =>
    cases h with
    | cons r t => exact .cons r (ih t)
theorem RepF.any {K : PySem.W.Frag} {B : List Addr} {H : Hp} {vs : List (Key × V)} {ds : List (Key × D)} (h : RepF K B H Key vs ds) (k : Key) : (vs.any fun kv => decide (kv.1 = k)) = ds.any fun kv => decide (kv.1 = k) := by
  induction vs generalizing ds with
  | nil => cases h; rfl
  | cons v vs ih =>
    cases h with
    | cons r t => rw [List.any_cons, List.any_cons, ih t]
theorem RepF.mapK {K : PySem.W.Frag} {B : List Addr} {H : Hp} {vs : List (Key × V)} {ds : List (Key × D)} (h : RepF K B H Key vs ds) {k : Key} {v : V} {d : D} (r : Rep K B H v d) : RepF K B H Key (vs.map fun kv => if kv.1 = k then (kv.1, v) else kv) (ds.map fun kv => if kv.1 = k then (kv.1, d) else kv) := by
  induction vs generalizing ds with
  | nil => cases h; exact .nil
  | cons w vs ih =>
    obtain ⟨f, w⟩ := w
    cases h with
    | cons r' t =>
      rw [List.map_cons, List.map_cons]
      by_cases e : f = k
      · simp only [e, if_true]
        exact .cons r (ih t)
      · simp only [e, if_false]
        exact .cons r' (ih t)
theorem RepF.putK {K : PySem.W.Frag} {B : List Addr} {H : Hp} {vs : List (Key × V)} {ds : List (Key × D)} (h : RepF K B H Key vs ds) {k : Key} {v : V} {d : D} (r : Rep K B H v d) : RepF K B H Key (L2.putK vs k v) (putKD ds k d) := by
  unfold L2.putK putKD
  rw [h.any k]
  split
  · exact h.mapK r
  · exact h.app (.cons r .nil)
theorem RepF.val {K : PySem.W.Frag} {B : List Addr} {H : Hp} {vs : List (Key × V)} {ds : List (Key × D)} (h : RepF K B H Key vs ds) (k : Key) : (valD ds k = none → valV vs k = none) ∧ ∀ d, valD ds k = some d → ∃ v, valV vs k = some v ∧ Rep K B H v d := by
  unfold valD valV
  induction vs generalizing ds with
  | nil => cases h; exact ⟨fun _ => rfl, fun d e => by cases e⟩
  | cons w vs ih =>
    obtain ⟨f, w⟩ := w
    cases h with
    | cons r' t =>
      rw [List.find?_cons, List.find?_cons]
      by_cases e : f = k
      · simp only [e, decide_true]
        exact ⟨fun z => by simp at z, fun d z => ⟨_, rfl, by simp at z; rw [← z]; exact r'⟩⟩
      · simp only [e, decide_false]
        exact ih t
theorem key_rep {K : PySem.W.Frag} {B : List Addr} {H : Hp} {v : V} {d : D} {k : Key} (r : Rep K B H v d) (e : keyD d = some k) : v = kV k := by
  cases d <;> first | (cases e; done) | (cases e; cases r; rfl)
/-- the pairs of a dict, done changing or not -/
def dictD (M : MM) : D → Option (List (Key × D))
  | .dK kvs => some kvs
  | .ref a => (match M.lookup a with | some (.dK kvs) => some kvs | _ => none)
  | _ => none
@[simp] theorem dictD_dK (M : MM) (kvs : List (Key × D)) : dictD M (.dK kvs) = some kvs := rfl
theorem dict_at {K : PySem.W.Frag} {F : List Addr} {H : Hp} {M : MM} {v : V} {d : D} {kvs : List (Key × D)} (mm : RMM K F H M) (r : Rep K (ak F M) H v d) (e : dictD M d = some kvs) : ∃ a vs, v = .ref a ∧ H a = some (.dK vs) ∧ RepF K (ak F M) H Key vs kvs := by
  cases d with
  | dK fs =>
    cases e
    cases r with
    | dK h1 h2 r => exact ⟨_, _, rfl, h2, r⟩
  | ref a =>
    cases r
    have e : (match M.lookup a with | some (.dK kvs) => some kvs | _ => none) = some kvs := e
    split at e
    · rename_i q
      cases e
      obtain ⟨vs, h1, h2⟩ := mm.get q
      exact ⟨a, vs, rfl, h1, h2⟩
    · cases e
  | _ => cases e
/-- y in d -/
def dInK (g : Bool → Bool) : R2D := fun x y M Q => optK (dictD M y) fun kvs => optK (keyD x) fun k => Q (.bl (g (valD kvs k).isSome)) M
@[simp ↓] theorem dInK_eq (g : Bool → Bool) : ∀ x y M Q, dInK g x y M Q = (optK (dictD M y) fun kvs => optK (keyD x) fun k => Q (.bl (g (valD kvs k).isSome)) M) := fun _ _ _ _ => rfl
/-- d[y] -/
def dGetK : R2D := fun x y M Q => optK (dictD M x) fun kvs => optK (keyD y) fun k => optK (valD kvs k) fun v => Q v M
@[simp ↓] theorem dGetK_eq : ∀ x y M Q, dGetK x y M Q = (optK (dictD M x) fun kvs => optK (keyD y) fun k => optK (valD kvs k) fun v => Q v M) := fun _ _ _ _ => rfl
theorem val_some {K : PySem.W.Frag} {B : List Addr} {H : Hp} {vs : List (Key × V)} {ds : List (Key × D)} (h : RepF K B H Key vs ds) (k : Key) : (valV vs k).isSome = (valD ds k).isSome := by
  cases e : valD ds k with
  | none => rw [(h.val k).1 e]; rfl
  | some d =>
    obtain ⟨v, e2, _⟩ := (h.val k).2 d e
    rw [e2]
    rfl
section
variable {X : Cx} {o i : Expr} {td ty : TD} {pos : Pos}
theorem c_inK (hu : X.A.units + 1 < cLine) : OpD X (compareOp .In) (dInK id) := by
  refine opD_own fun pins s σ H x y v u QV I rx ry hq => ?_
  obtain ⟨F, M, dx, dy, Q, mm, rpx, rpy, h0, kq⟩ := hq
  obtain ⟨kvs, e1, h0⟩ := optK_ex (show optK (dictD M dy) _ from h0)
  obtain ⟨k, e2, h0⟩ := optK_ex h0
  obtain ⟨a, vs, rfl, h1, h2⟩ := dict_at mm rpy e1
  obtain rfl : u = Value.ref a := ry
  cases key_rep rpx e2
  refine d_in hu I (DGet.k h1) rx fun s3 I3 => ⟨.bl (valV vs k).isSome, H, I3, rfl, ?_⟩
  rw [val_some h2]
  exact kq.at mm (.bl _) h0
theorem c_notinK (hu : X.A.units + 1 < cLine) : OpD X (compareOp .NotIn) (dInK not) := by
  refine opD_own fun pins s σ H x y v u QV I rx ry hq => ?_
  obtain ⟨F, M, dx, dy, Q, mm, rpx, rpy, h0, kq⟩ := hq
  obtain ⟨kvs, e1, h0⟩ := optK_ex (show optK (dictD M dy) _ from h0)
  obtain ⟨k, e2, h0⟩ := optK_ex h0
  obtain ⟨a, vs, rfl, h1, h2⟩ := dict_at mm rpy e1
  obtain rfl : u = Value.ref a := ry
  cases key_rep rpx e2
  refine d_notIn hu I (DGet.k h1) rx fun s3 I3 => ⟨.bl (!(valV vs k).isSome), H, I3, rfl, ?_⟩
  rw [val_some h2]
  exact kq.at mm (.bl _) h0
theorem d_getK (hu : X.A.units + 1 < cLine) (ho : PD X o td) (hi : PD X i ty) (hs : NoSl i := by exact fun _ _ => rfl) : PD X (.Subscript o i pos) (dOp dGetK td ty) := by
  refine PD.of (fun W tk => pe_dget hu (ho.pe tk) (hi.pe tk) hs) fun W F σ H ds M Z Q hst ht => ?_
  refine ⟨F, ds, M, _, _, hst, ht, fun v H1 d M1 st mm rp q => ?_⟩
  refine ⟨F, ds, M1, _, _, hst.to st mm, q, fun v2 H2 d2 M2 st2 mm2 rp2 q2 => ?_⟩
  obtain ⟨kvs, e1, q2⟩ := optK_ex (show optK (dictD M2 d) _ from q2)
  obtain ⟨k, e2, q2⟩ := optK_ex q2
  obtain ⟨dv, e3, q2⟩ := optK_ex q2
  obtain ⟨a, vs, rfl, h1, h2⟩ := dict_at mm2 (rp.step st2.fix) e1
  cases key_rep rp2 e2
  obtain ⟨w, e4, r4⟩ := (h2.val k).2 dv e3
  refine ⟨a, w, rfl, ?_, (KQ.eq.on (st.trans st2)).at mm2 r4 q2⟩
  rw [← e4]
  exact DGet.k h1
end
end L2.Dl

namespace L2.Dl
open PySem PySem.Spec PyProof.Rows
/-! ### {k: v for ..} -/
def dcGo (g : Tgt) (tt : TTD) (tk tv : TD) (ds : SD) (Q : QD) : List D → List (Key × D) → MM → Prop
  | [], acc, M => Q (.dK acc) M
  | x :: xs, acc, M => optK (setT g x ds) fun ds2 => tt ds2 M X0 fun b M3 => if b = true then tk ds2 M3 X0 fun y M4 => tv ds2 M4 X0 fun z M5 => optK (keyD y) fun k => acc.length < sizeLine ∧ dcGo g tt tk tv ds Q xs (putKD acc k z) M5 else dcGo g tt tk tv ds Q xs acc M3
def dDc (ti : TID) (g : Tgt) (tt : TTD) (tk tv : TD) (vs : List Nat) : TD := fun ds M Z Q => ti ds M Z fun items M1 => dcGo g tt tk tv (wipeD ds vs) Q items [] M1
@[simp ↓] theorem dDc_eq (ti : TID) (g : Tgt) (tt : TTD) (tk tv : TD) (vs : List Nat) : ∀ ds M Z Q, dDc ti g tt tk tv vs ds M Z Q = (ti ds M Z fun items M1 => dcGo g tt tk tv (wipeD ds vs) Q items [] M1) := fun _ _ _ _ => rfl
theorem dc_ok {W : WX} {Z : XD} {F : List Addr} {σ : L2.St} {H : Hp} {ds : SD} {M : MM} {Q : QD} {QV : VK} {K : PySem.W.Frag} {wi : TI} {ti : TID} {g : Tgt} {tt : TTD} {tk tv : TD} {vs : List Nat} (hv : ∀ i ∈ g.slots, i ∈ vs)
    (hw : ∀ F σ H ds M Z QI, Stt K W F H σ ds M Z → ti ds M Z QI → ∀ RV : It → Hp → Prop, (∀ J H1 items M1, Stp H (keys M) H1 (keys M1) → RMM K F H1 M1 → WalkD K F J H1 M1 items → QI items M1 → RV J H1) → wi σ H RV)
    (hst : Stt K W F H σ ds M Z) (ht : dDc ti g tt tk tv vs ds M Z Q) (k : KQ K F H M Q QV) : tDc wi (tgV K g) (ttOf K W0 tt) (teOf K W0 tk) (teOf K W0 tv) vs σ H QV := by
  refine hw F σ H ds M _ _ hst ht _ fun J H1 items M1 st mm wk q => ?_
  intro L hL
  have hLF : L ∉ F := fun z => by
    obtain ⟨_, o, e⟩ := mm.fd L z
    rw [hL] at e; cases e
  refine ⟨fun i m H' => m = items.length - i ∧ i ≤ items.length ∧ ∃ acc vacc M', Stp H1 (keys M1) H' (keys M') ∧ Fix H1 (ak F M1) H' (ak (L :: F) M') ∧ RMM K (L :: F) H' M' ∧ H' L = some (.dK vacc) ∧ RepF K (ak (L :: F) M') H' Key vacc acc ∧ RSl K (ak (L :: F) M') H' σ ds ∧ dcGo g tt tk tv (wipeD ds vs) Q (items.drop i) acc M',
    ⟨items.length, by simp, Nat.zero_le _, [], [], M1, stp_new hL, fix_hide hL, mm.hide hL, upd_same, .nil, ((hst.to st mm).sl.step (fix_hide hL)), q⟩, ?_⟩
  rintro i m H' ⟨rfl, hle, acc, vacc, M', s1, f1, mm', hLa, ra, sl, w⟩
  by_cases hlt : i < items.length
  · refine .inr ⟨wk.go (L :: F) i H' (keys M') hlt f1, fun H2 => ∃ acc vacc M2, Stp H1 (keys M1) H2 (keys M2) ∧ Fix H1 (ak F M1) H2 (ak (L :: F) M2) ∧ RMM K (L :: F) H2 M2 ∧ H2 L = some (.dK vacc) ∧ RepF K (ak (L :: F) M2) H2 Key vacc acc ∧ RSl K (ak (L :: F) M2) H2 σ ds ∧ dcGo g tt tk tv (wipeD ds vs) Q (items.drop (i + 1)) acc M2, fun H2 h => ⟨items.length - (i + 1), by omega, rfl, hlt, h⟩, fun x H2 y => ?_⟩
    obtain ⟨s2, mm2, d, hd, rp⟩ := wk.yld (L :: F) i H' M' x H2 hlt f1 mm' y
    have hLk : L ∉ keys M' := (mm'.fd L List.mem_cons_self).1
    have e0 : items.drop i = d :: items.drop (i + 1) := by
      rw [List.drop_eq_getElem_cons hlt]
      rw [List.getElem?_eq_getElem hlt] at hd
      cases hd
      rfl
    have tn := w
    rw [e0] at tn
    have tn : optK (setT g d (wipeD ds vs)) (fun ds2 => tt ds2 M' X0 fun b M3 => if b = true then tk ds2 M3 X0 fun y M4 => tv ds2 M4 X0 fun z M5 => optK (keyD y) fun k => acc.length < sizeLine ∧ dcGo g tt tk tv (wipeD ds vs) Q (items.drop (i + 1)) (putKD acc k z) M5 else dcGo g tt tk tv (wipeD ds vs) Q (items.drop (i + 1)) acc M3) := tn
    unfold optK at tn
    split at tn
    · rename_i ds2 e
      refine tg_ok rp e ((sl.step s2.fix).wipe vs) fun σ2 h2 hwp => ⟨?_, ?_⟩
      · rw [hwp vs hv, wipe_wipe vs vs fun _ h => h]
      · refine ⟨L :: F, ds2, M', _, _, ⟨mm2, h2, kw0⟩, tn, fun b H3 M3 s3 mm3 q3 => ?_⟩
        cases b with
        | true =>
          refine iteT ⟨L :: F, ds2, M3, _, _, ⟨mm3, h2.step s3.fix, kw0⟩, q3, fun yv H4 yd M4 s4 mm4 rp4 q4 => ?_⟩
          refine ⟨L :: F, ds2, M4, _, _, ⟨mm4, (h2.step s3.fix).step s4.fix, kw0⟩, q4, fun zv H5 zd M5 s5 mm5 rp5 q5 => ?_⟩
          obtain ⟨kk, ek, q5⟩ := optK_ex (show optK (keyD yd) _ from q5)
          have hyk := key_rep rp4 ek
          have s25 := ((s2.trans s3).trans s4).trans s5
          have o2 := s25.keep L _ hLk hLa
          have hm : L ∈ L :: F := List.mem_cons_self
          have fx : Fix H5 (ak (L :: F) M5) (upd H5 L (.dK (L2.putK vacc kk zv))) (ak (L :: F) M5) := fix_hid hm
          refine ⟨vacc, kk, hyk, o2, by rw [ra.len]; exact q5.1, putKD acc kk zd, L2.putK vacc kk zv, M5, ?_, ?_, mm5.hid hm, upd_same, ?_, ?_, q5.2⟩
          · have sA := (s1.trans s25)
            exact ⟨fun b o hb e => by rw [upd_ne (ne_of_none e hL)]; exact sA.keep b o hb e, sA.new⟩
          · exact (f1.trans s25.fix).trans fx
          · exact ((ra.step s25.fix).putK rp5).step fx
          · exact (sl.step s25.fix).step fx
        | false =>
          have s23 := s2.trans s3
          exact iteF ⟨acc, vacc, M3, s1.trans s23, f1.trans s23.fix, mm3, s23.keep L _ hLk hLa, ra.step s23.fix, sl.step s23.fix, q3⟩
    · exact tn.elim
  · have e : i = items.length := by omega
    subst e
    rw [List.drop_length] at w
    have hLk : L ∉ keys M' := (mm'.fd L List.mem_cons_self).1
    refine .inl ⟨wk.stop (L :: F) H' (keys M') f1, k _ H' _ M' (st.trans s1) mm'.show (.dK ?_ hLa (ra.step fix_show)) w⟩
    rw [List.mem_append, not_or]
    exact ⟨hLk, hLF⟩
section
variable {X : Cx} {tg : Expr} {pos : Pos}
theorem d_dc {kx vx iter : Expr} {ifs : List Expr} {scope : Scope} {own : List (Str × Nat)} {ti : TID} {g : Tgt} {tt : TTD} {tk tv : TD} (hc : X.calm = true) (hN : X.N.Nodup) (hi : PID X tg iter ti) (ok : BlkOk X.N X.env.scope scope own)
    (hg : ∀ (s : Shared) (H : Hp) (C : Addr) (cl : List (Str × Addr)) (fp : List Addr), PG (X.blk s H scope (compEnvC scope cl C X.env) fp) tg (tgV X.K g)) (ht : ∀ (s : Shared) (H : Hp) (C : Addr) (cl : List (Str × Addr)) (fp : List Addr), PTsD (X.blk s H scope (compEnvC scope cl C X.env) fp) ifs tt)
    (hk : ∀ (s : Shared) (H : Hp) (C : Addr) (cl : List (Str × Addr)) (fp : List Addr), PD (X.blk s H scope (compEnvC scope cl C X.env) fp) kx tk) (he : ∀ (s : Shared) (H : Hp) (C : Addr) (cl : List (Str × Addr)) (fp : List Addr), PD (X.blk s H scope (compEnvC scope cl C X.env) fp) vx tv) (hv : ∀ i ∈ g.slots, i ∈ own.map (·.2) := by decide) (hs : ∀ x, foldedSetIterable iter X.env x = pure x := by intro _; rfl) :
    PD X (.DictComp kx vx [⟨tg, iter, ifs, 0⟩] scope pos) (dDc ti g tt tk tv (own.map (·.2))) := by
  refine ⟨fun W tkk F pins s σ H ds M Z Q I hst hq => ?_⟩
  obtain ⟨wi, pi, hw⟩ := hi.run W tkk
  refine thn ((pe_dc (tt := ttOf X.K W0 tt) (tk := teOf X.K W0 tk) (tv := teOf X.K W0 tv) hc hN pi ok hg ht (fun s H C cl fp => (hk s H C cl fp).pe takes0) (fun s H C cl fp => (he s H C cl fp).pe takes0) hs).run pins s σ H _ I (dc_ok hv hw hst hq KQ.eq)) fun u s' hh => ?_
  obtain ⟨v, H', I', r, d, M', st, mm, rp, q⟩ := hh
  exact ⟨v, H', d, M', I', r, st, mm, rp, q⟩
end
/-! ### [..], the new list may change -/
/-- the new list is told as one that may change -/
def qM (Q : QD) : QD := fun d M => match d with
  | .lst xs => ∀ p, p ∉ keys M → Q (.ref p) ((p, .lst xs) :: M)
  | _ => False
def dLcM (ti : TID) (g : Tgt) (tt : TTD) (te : TD) (vs : List Nat) : TD := fun ds M Z Q => dLc ti g tt te vs ds M Z (qM Q)
@[simp ↓] theorem dLcM_eq (ti : TID) (g : Tgt) (tt : TTD) (te : TD) (vs : List Nat) : ∀ ds M Z Q, dLcM ti g tt te vs ds M Z Q = (ti ds M Z fun items M1 => lcGo g tt te (wipeD ds vs) (qM Q) items [] M1) := fun _ _ _ _ => rfl
@[simp] theorem qM_lst (Q : QD) (xs : List D) (M : MM) : qM Q (.lst xs) M = ∀ p, p ∉ keys M → Q (.ref p) ((p, .lst xs) :: M) := rfl
theorem lc_okG {W : WX} {Z : XD} {F : List Addr} {σ : L2.St} {H : Hp} {ds : SD} {M : MM} {Q : QD} {QV : VK} {K : PySem.W.Frag} {wi : TI} {ti : TID} {g : Tgt} {tt : TTD} {te : TD} {vs : List Nat} (hv : ∀ i ∈ g.slots, i ∈ vs)
    (hw : ∀ F σ H ds M Z QI, Stt K W F H σ ds M Z → ti ds M Z QI → ∀ RV : It → Hp → Prop, (∀ J H1 items M1, Stp H (keys M) H1 (keys M1) → RMM K F H1 M1 → WalkD K F J H1 M1 items → QI items M1 → RV J H1) → wi σ H RV)
    (hst : Stt K W F H σ ds M Z) (ht : dLc ti g tt te vs ds M Z Q) (k : ∀ L H1 H' M1 M' acc vacc, Stp H (keys M) H1 (keys M1) → H1 L = none → L ∉ F → Stp H1 (keys M1) H' (keys M') → RMM K (L :: F) H' M' → H' L = some (.lst vacc) → RepA K (ak (L :: F) M') H' vacc acc → Q (.lst acc) M' → QV (.ref L) H') : tLc wi (tgV K g) (ttOf K W0 tt) (teOf K W0 te) vs σ H QV := by
  refine hw F σ H ds M _ _ hst ht _ fun J H1 items M1 st mm wk q => ?_
  intro L hL
  have hLF : L ∉ F := fun z => by
    obtain ⟨_, o, e⟩ := mm.fd L z
    rw [hL] at e; cases e
  refine ⟨fun i m H' => m = items.length - i ∧ i ≤ items.length ∧ ∃ acc vacc M', Stp H1 (keys M1) H' (keys M') ∧ Fix H1 (ak F M1) H' (ak (L :: F) M') ∧ RMM K (L :: F) H' M' ∧ H' L = some (.lst vacc) ∧ RepA K (ak (L :: F) M') H' vacc acc ∧ RSl K (ak (L :: F) M') H' σ ds ∧ lcGo g tt te (wipeD ds vs) Q (items.drop i) acc M',
    ⟨items.length, by simp, Nat.zero_le _, [], [], M1, stp_new hL, fix_hide hL, mm.hide hL, upd_same, .nil, ((hst.to st mm).sl.step (fix_hide hL)), q⟩, ?_⟩
  rintro i m H' ⟨rfl, hle, acc, vacc, M', s1, f1, mm', hLa, ra, sl, w⟩
  by_cases hlt : i < items.length
  · refine .inr ⟨wk.go (L :: F) i H' (keys M') hlt f1, fun H2 => ∃ acc vacc M2, Stp H1 (keys M1) H2 (keys M2) ∧ Fix H1 (ak F M1) H2 (ak (L :: F) M2) ∧ RMM K (L :: F) H2 M2 ∧ H2 L = some (.lst vacc) ∧ RepA K (ak (L :: F) M2) H2 vacc acc ∧ RSl K (ak (L :: F) M2) H2 σ ds ∧ lcGo g tt te (wipeD ds vs) Q (items.drop (i + 1)) acc M2, fun H2 h => ⟨items.length - (i + 1), by omega, rfl, hlt, h⟩, fun x H2 y => ?_⟩
    obtain ⟨s2, mm2, d, hd, rp⟩ := wk.yld (L :: F) i H' M' x H2 hlt f1 mm' y
    have hLk : L ∉ keys M' := (mm'.fd L List.mem_cons_self).1
    have e0 : items.drop i = d :: items.drop (i + 1) := by
      rw [List.drop_eq_getElem_cons hlt]
      rw [List.getElem?_eq_getElem hlt] at hd
      cases hd
      rfl
    have tn := w
    rw [e0] at tn
    have tn : optK (setT g d (wipeD ds vs)) (fun ds2 => tt ds2 M' X0 fun b M3 => if b = true then te ds2 M3 X0 fun y M4 => acc.length < sizeLine ∧ lcGo g tt te (wipeD ds vs) Q (items.drop (i + 1)) (acc ++ [y]) M4 else lcGo g tt te (wipeD ds vs) Q (items.drop (i + 1)) acc M3) := tn
    unfold optK at tn
    split at tn
    · rename_i ds2 e
      refine tg_ok rp e ((sl.step s2.fix).wipe vs) fun σ2 h2 hwp => ⟨?_, ?_⟩
      · rw [hwp vs hv, wipe_wipe vs vs fun _ h => h]
      · refine ⟨L :: F, ds2, M', _, _, ⟨mm2, h2, kw0⟩, tn, fun b H3 M3 s3 mm3 q3 => ?_⟩
        cases b with
        | true =>
          refine iteT ⟨L :: F, ds2, M3, _, _, ⟨mm3, h2.step s3.fix, kw0⟩, q3, fun yv H4 yd M4 s4 mm4 rp4 q4 => ?_⟩
          have s24 := (s2.trans s3).trans s4
          have o2 := s24.keep L _ hLk hLa
          have hm : L ∈ L :: F := List.mem_cons_self
          have fx : Fix H4 (ak (L :: F) M4) (upd H4 L (.lst (vacc ++ [yv]))) (ak (L :: F) M4) := fix_hid hm
          refine ⟨vacc, o2, by rw [ra.len]; exact q4.1, acc ++ [yd], vacc ++ [yv], M4, ?_, ?_, mm4.hid hm, upd_same, ?_, ?_, q4.2⟩
          · have sA := (s1.trans s24)
            exact ⟨fun b o hb e => by rw [upd_ne (ne_of_none e hL)]; exact sA.keep b o hb e, sA.new⟩
          · exact (f1.trans s24.fix).trans fx
          · exact ((ra.step s24.fix).append (.cons rp4 .nil)).step fx
          · exact (sl.step s24.fix).step fx
        | false =>
          have s23 := s2.trans s3
          exact iteF ⟨acc, vacc, M3, s1.trans s23, f1.trans s23.fix, mm3, s23.keep L _ hLk hLa, ra.step s23.fix, sl.step s23.fix, q3⟩
    · exact tn.elim
  · have e : i = items.length := by omega
    subst e
    rw [List.drop_length] at w
    have hLk : L ∉ keys M' := (mm'.fd L List.mem_cons_self).1
    exact .inl ⟨wk.stop (L :: F) H' (keys M') f1, k L H1 H' M1 M' acc vacc st hL hLF s1 mm' hLa ra w⟩

theorem mut_end {K : PySem.W.Frag} {F : List Addr} {H H1 H' : Hp} {M M1 M' : MM} {L : Addr} {acc : List D} {vacc : List V} {Q : QD} {QV : VK} (kq : KQ K F H M Q QV) (st : Stp H (keys M) H1 (keys M1)) (hL : H1 L = none) (hLF : L ∉ F) (s1 : Stp H1 (keys M1) H' (keys M')) (mm : RMM K (L :: F) H' M') (e : H' L = some (.lst vacc)) (ra : RepA K (ak (L :: F) M') H' vacc acc) (q : qM Q (.lst acc) M') : QV (.ref L) H' := by
  have hLk : L ∉ keys M' := (mm.fd L List.mem_cons_self).1
  have sb : ∀ a, a ∈ ak F ((L, MO.lst acc) :: M') ↔ a ∈ ak (L :: F) M' := fun a => by
    simp only [List.map_cons, List.mem_cons, List.mem_append]
    constructor
    · rintro ((h | h) | h)
      · exact .inr (.inl h)
      · exact .inl h
      · exact .inr (.inr h)
    · rintro (h | h | h)
      · exact .inl (.inr h)
      · exact .inl (.inl h)
      · exact .inr h
  have fx : Fix H' (ak (L :: F) M') H' (ak F ((L, .lst acc) :: M')) := fun a o ha e => ⟨fun z => ha ((sb a).mp z), e⟩
  refine kq (.ref L) H' (.ref L) ((L, .lst acc) :: M') ⟨fun b o hb eb => (st.trans s1).keep b o hb eb, fun b hb => ?_⟩ ⟨List.nodup_cons.mpr ⟨hLk, mm.nd⟩, fun a mo ha => ?_, fun f hf => ?_⟩ (.ref L) (q L hLk)
  · rcases List.mem_cons.mp hb with z | z
    · have z : b = L := z
      subst z
      by_cases hk : b ∈ keys M
      · exact .inl hk
      · refine .inr ?_
        cases eH : H b with
        | none => rfl
        | some o => rw [st.keep b o hk eH] at hL; cases hL
    · exact (st.trans s1).new b z
  · rcases List.mem_cons.mp ha with z | z
    · cases z
      exact ⟨vacc, e, ra.step fx⟩
    · exact (mm.at_ a mo z).step fx rfl
  · obtain ⟨h1, h2⟩ := mm.fd f (List.mem_cons_of_mem _ hf)
    refine ⟨fun z => ?_, h2⟩
    rcases List.mem_cons.mp z with z | z
    · have z : f = L := z
      exact hLF (z ▸ hf)
    · exact h1 z
section
variable {X : Cx} {tg : Expr} {pos : Pos}
theorem d_lcM {elt iter : Expr} {ifs : List Expr} {scope : Scope} {own : List (Str × Nat)} {ti : TID} {g : Tgt} {tt : TTD} {te : TD} (hc : X.calm = true) (hN : X.N.Nodup) (hi : PID X tg iter ti) (ok : BlkOk X.N X.env.scope scope own)
    (hg : ∀ (s : Shared) (H : Hp) (C : Addr) (cl : List (Str × Addr)) (fp : List Addr), PG (X.blk s H scope (compEnvC scope cl C X.env) fp) tg (tgV X.K g)) (ht : ∀ (s : Shared) (H : Hp) (C : Addr) (cl : List (Str × Addr)) (fp : List Addr), PTsD (X.blk s H scope (compEnvC scope cl C X.env) fp) ifs tt)
    (he : ∀ (s : Shared) (H : Hp) (C : Addr) (cl : List (Str × Addr)) (fp : List Addr), PD (X.blk s H scope (compEnvC scope cl C X.env) fp) elt te) (hv : ∀ i ∈ g.slots, i ∈ own.map (·.2) := by decide) (hs : ∀ x, foldedSetIterable iter X.env x = pure x := by intro _; rfl) :
    PD X (.ListComp elt [⟨tg, iter, ifs, 0⟩] scope pos) (dLcM ti g tt te (own.map (·.2))) := by
  refine ⟨fun W tk F pins s σ H ds M Z Q I hst hq => ?_⟩
  obtain ⟨wi, pi, hw⟩ := hi.run W tk
  refine thn ((pe_lc (tt := ttOf X.K W0 tt) (te := teOf X.K W0 te) hc hN pi ok hg ht (fun s H C cl fp => (he s H C cl fp).pe takes0) hs).run pins s σ H _ I (lc_okG (Q := qM Q) hv hw hst hq fun L H1 H' M1 M' acc vacc st hL hLF s1 mm e ra q => mut_end KQ.eq st hL hLF s1 mm e ra q)) fun u s' hh => ?_
  obtain ⟨v, H', I', r, d, M', st, mm, rp, q⟩ := hh
  exact ⟨v, H', d, M', I', r, st, mm, rp, q⟩
end
end L2.Dl

namespace L2.Dl
open PySem PySem.Spec PyProof.Rows
section
variable {X : Cx}
/-- xs.clear() -/
def dClear : RMD := fun x xs M Q => match x, xs with
  | .ref p, [] => lstK (M.lookup p) fun _ => letK (put M p (.lst [])) fun M' => Q .non M'
  | _, _ => False
@[simp ↓] theorem dClear_eq : ∀ x xs M Q, dClear x xs M Q = (match x, xs with
  | .ref p, [] => lstK (M.lookup p) fun _ => letK (put M p (.lst [])) fun M' => Q .non M'
  | _, _ => False) := fun _ _ _ _ => rfl
theorem m_clear : MtD X "list.clear" dClear := by
  refine ⟨_, mt_clear, fun F H M x vs dx xs Q QV mm rx rp hr k => ?_⟩
  match dx, xs, hr with
  | .ref p, [], hr =>
    cases rx
    cases rp
    have hr : lstK (M.lookup p) (fun ys => Q .non (put M p (.lst []))) := hr
    unfold lstK at hr
    split at hr
    · rename_i ys e
      obtain ⟨ws, h1, h2⟩ := mm.get e
      have hk := lookup_key e
      exact ⟨p, ws, rfl, rfl, h1, k.put mm hk (RMM.putL hk .nil) .non hr⟩
    · exact hr.elim
/-- x is a bool -/
def dIsB : R2D := fun x y M Q => match x, y with | .bl a, .bl b => Q (.bl (decide (a = b))) M | _, _ => False
@[simp ↓] theorem dIsB_eq : ∀ x y M Q, dIsB x y M Q = (match x, y with | .bl a, .bl b => Q (.bl (decide (a = b))) M | _, _ => False) := fun _ _ _ _ => rfl
theorem c_isB : OpD X (compareOp .Is) dIsB := by
  refine ⟨_, op_is_bl, fun F H M x y dx dy Q QV mm rx ry hr k => ?_⟩
  match dx, dy, hr with
  | .bl a, .bl b, hr =>
    cases rx
    cases ry
    exact ⟨a, b, rfl, rfl, k.at mm (.bl _) hr⟩
theorem repA_rep {K : PySem.W.Frag} {B : List Addr} {H : Hp} {vs : List V} {ds : List D} (h : RepA K B H vs ds) : ∀ n : Nat, RepA K B H (List.replicate n vs).flatten (List.replicate n ds).flatten
  | 0 => .nil
  | n + 1 => by
    rw [List.replicate_succ, List.replicate_succ, List.flatten_cons, List.flatten_cons]
    exact h.append (repA_rep h n)
/-- xs * n -/
def dRep : R2D := fun x y M Q => match x, y with
  | .lst xs, .int k => -(2 ^ 63) ≤ k ∧ k < 2 ^ 63 ∧ xs.length * k.toNat ≤ sizeLine ∧ Q (.lst (List.replicate k.toNat xs).flatten) M
  | _, _ => False
@[simp ↓] theorem dRep_eq : ∀ x y M Q, dRep x y M Q = (match x, y with
  | .lst xs, .int k => -(2 ^ 63) ≤ k ∧ k < 2 ^ 63 ∧ xs.length * k.toNat ≤ sizeLine ∧ Q (.lst (List.replicate k.toNat xs).flatten) M
  | _, _ => False) := fun _ _ _ _ => rfl
theorem o_rep : OpD X (binaryOp .Mult) dRep := by
  refine ⟨_, op_rep, fun F H M x y dx dy Q QV mm rx ry hr k => ?_⟩
  match dx, dy, hr with
  | .lst xs, .int n, hr =>
    cases ry
    cases rx with
    | lst hx r => exact ⟨_, n, _, rfl, rfl, hx.2, hr.1, hr.2.1, by rw [r.len]; exact hr.2.2.1, k.newL mm (repA_rep r _) hr.2.2.2⟩
end
end L2.Dl

namespace L2.Dl
open PySem PySem.Spec PyProof.Rows
/-! ### plain lemmas that many laws want -/
theorem str_assoc (a b c : Str) : a ++ b ++ c = a ++ (b ++ c) := by
  show Str.mk ((a.cps ++ b.cps) ++ c.cps) = Str.mk (a.cps ++ (b.cps ++ c.cps))
  rw [Array.append_assoc]
theorem str_empty (a : Str) : Str.empty ++ a = a := by
  show Str.mk (#[] ++ a.cps) = a
  rw [Array.empty_append]
theorem str_empty' (a : Str) : a ++ Str.empty = a := by
  show Str.mk (a.cps ++ #[]) = a
  rw [Array.append_empty]
theorem okD_strsT (l : List Str) : okD (.tup (l.map D.str)) = true := by
  refine okD_N (n := 1) ?_ (by decide)
  rw [okN_t, List.all_map, List.all_eq_true]
  intro x _
  rfl
theorem nodup_len {α : Type} [DecidableEq α] : ∀ {l m : List α}, l.Nodup → (∀ x ∈ l, x ∈ m) → l.length ≤ m.length
  | [], _, _, _ => Nat.zero_le _
  | x :: l, m, nd, h => by
    rw [List.nodup_cons] at nd
    have hx := h x List.mem_cons_self
    have := nodup_len (l := l) (m := m.erase x) nd.2 fun y hy => (List.mem_erase_of_ne (fun e => nd.1 (by rw [← e]; exact hy))).mpr (h y (List.mem_cons_of_mem _ hy))
    rw [List.length_erase_of_mem hx] at this
    have : 0 < m.length := List.length_pos_of_mem hx
    simp only [List.length_cons]
    omega
def strP (p : Str → Bool) : D → Bool
  | .str k => p k
  | _ => false
theorem filt_strs (p : Str → Bool) : ∀ ks : List Str, ((ks.map D.str).filter (strP p)).map (fun d => d) = (ks.filter p).map D.str
  | [] => rfl
  | k :: r => by
    have ih := filt_strs p r
    rw [List.map_cons, List.filter_cons, List.filter_cons]
    show List.map _ (if p k = true then _ else _) = _
    by_cases h : p k = true
    · rw [if_pos h, if_pos h, List.map_cons, List.map_cons, ih]
    · rw [if_neg h, if_neg h, ih]
theorem perm_map {α β : Type} (f : α → β) : ∀ {ys : List β} {zs : List β}, ys.Perm zs → ∀ l : List α, zs = l.map f → ∃ l' : List α, l'.Perm l ∧ ys = l'.map f := by
  intro ys zs h
  induction h with
  | nil =>
    intro l e
    cases l with
    | nil => exact ⟨[], .nil, rfl⟩
    | cons a b => cases e
  | cons x h ih =>
    intro l e
    cases l with
    | nil => cases e
    | cons a b =>
      rw [List.map_cons] at e
      injection e with e1 e2
      obtain ⟨l', h1, h2⟩ := ih b e2
      exact ⟨a :: l', .cons a h1, by rw [List.map_cons, e1, h2]⟩
  | swap x y l =>
    intro l0 e
    match l0, e with
    | a :: b :: r, e =>
      simp only [List.map_cons, List.cons.injEq] at e
      obtain ⟨e1, e2, e3⟩ := e
      exact ⟨b :: a :: r, List.Perm.swap a b r, by simp [e1, e2, e3]⟩
  | trans h1 h2 ih1 ih2 =>
    intro l e
    obtain ⟨l2, p2, e2⟩ := ih2 l e
    obtain ⟨l1, p1, e1⟩ := ih1 l2 e2
    exact ⟨l1, p1.trans p2, e1⟩
theorem ranged_drop {k i : Nat} {x : D} {xs : List D} (h : x :: xs = (ranged 0 k).drop i) : i < k ∧ x = .int (i : Nat) ∧ xs = (ranged 0 k).drop (i + 1) := by
  have hl : i < (ranged 0 k).length := by
    have := congrArg List.length h
    rw [List.length_cons, List.length_drop] at this
    omega
  rw [List.drop_eq_getElem_cons hl] at h
  injection h with h1 h2
  rw [ranged_len] at hl
  refine ⟨hl, ?_, h2⟩
  rw [h1]
  have := ranged_get (lo := 0) hl
  rw [List.getElem?_eq_getElem (by rw [ranged_len]; exact hl)] at this
  injection this with this
  rw [this]
  simp
theorem look_new {M : MM} {p a : Addr} {mo mo' : MO} (hp : p ∉ keys M) (h : M.lookup a = some mo) : List.lookup a ((p, mo') :: M) = some mo := by
  have : (a == p) = false := by
    have hne : a ≠ p := fun z => hp (z ▸ lookup_key h)
    simpa using hne
  simp [List.lookup, this, h]
end L2.Dl

namespace PySem.W
open PySem PySem.Spec PyProof.Rows
/-! ### an own binary operator with a right side of a built-in type -/
theorem fills_T {K : Frag} {M : Model} {h : Heap} {nm t : String} {f r : Option Value} (X : K.In h) (h1 : findIn K (.type t) (PySem.dunder nm) = some f) (h2 : findIn K (.type t) (dunderR nm) = some r) : Looks M h (fillsNumberSlot (.type t) nm) ((f.isSome && !isSeqSlot f) || (r.isSome && !isSeqSlot r)) := by
  intro A Q E s k q
  unfold fillsNumberSlot
  refine wpAny_bind ((looks_findIn X h1) A _ E s k (wpAny_bind ((looks_findIn X h2) A _ E s k (wpAny_pure ?_))))
  exact q
theorem nsip_K {K : Frag} {M : Model} {h : Heap} {nm : String} {C f : Addr} (X : K.In h) (hs : findIn K (.ref C) (PySem.dunder nm) = some (some (.ref f))) (hr : findIn K (.ref C) (dunderR nm) = some none) : Looks M h (numberSlotInPython (.ref C) nm) true := by
  intro A Q E s k q
  unfold numberSlotInPython
  refine wpAny_bind ((looks_findIn X hs) A _ E s k (wpAny_bind (wpAny_pure (wpAny_bind ((looks_findIn X hr) A _ E s k (wpAny_bind (wpAny_pure ?_)))))))
  exact wpAny_pure q
theorem binop_T {K : Frag} {h₀ : Heap} {L : Addr} {m : Str → Option Value} {prog : Program} {w : World} {A : Around} {E : Value → Shared → Prop} {s : Shared} {x C f : Addr} {ox : Obj} {od : Option Obj} {op : Operator} {b : Value} {t : String} {f' r' : Option Value} {Q : Value → Shared → Prop} (F : Fr h₀ L s.heap m) (X₀ : K.In h₀) (I : InstAt s.heap x ox C od) (hb : Looks (model prog w) s.heap (typeOf b) (.type t)) (hc : selfFirst K C = true)
    (hs : findIn K (.ref C) (PySem.dunder op.info.2) = some (some (.ref f))) (hr : findIn K (.ref C) (dunderR op.info.2) = some none) (hf : isFn K (.ref f) = true)
    (h1 : findIn K (.type t) (PySem.dunder op.info.2) = some f') (h2 : findIn K (.type t) (dunderR op.info.2) = some r') (hsub : subIn K (.type t) (.ref C) = some false)
    (h : wpAny (model prog w) A (call (.ref f) [.ref x, b]) (CmpBack Q) E s) : wpAny (model prog w) A (binaryOp op (.ref x) b) Q E s := by
  have X := X₀.keeps F.keep
  obtain ⟨cd, hcd, hm⟩ := any_some hc
  obtain ⟨rest, hm⟩ : ∃ rest, cd.mro = .ref C :: rest := by
    cases q : cd.mro with
    | nil => rw [q] at hm; cases hm
    | cons a r => rw [q] at hm; exact ⟨r, by rw [List.head?_cons] at hm; cases (beq_iff_eq.mp hm); rfl⟩
  have fin : wpAny (model prog w) A (tryMethod (.ref x) (PySem.dunder op.info.2) b) (fun v s' => match v with | some v => Q v s' | none => False) E s := by
    unfold tryMethod
    refine wpAny_bind (special_fn X I hs (beq_iff_eq.mp hf) (wpAny_mono h (fun v s' hv => ?_) fun _ _ e => e))
    cases v <;> first | exact hv.elim | exact wpAny_pure hv
  unfold binaryOp
  refine wpAny_holding (wpAny_bind ?_)
  unfold binaryOp1
  refine wpAny_bind (I.type.here (wpAny_bind (hb.here (wpAny_bind ((fills_K X hcd hm hs).here ?_)))))
  have e0 : ((Value.ref C) == (Value.type t)) = false := rfl
  simp only [e0, Bool.false_eq_true, if_false]
  refine wpAny_bind ((fills_T X h1 h2).here ?_)
  cases q : ((f'.isSome && !isSeqSlot f') || (r'.isSome && !isSeqSlot r')) with
  | false =>
    simp only [Bool.and_false, Bool.false_eq_true, if_false, Bool.false_and]
    refine wpAny_bind (wpAny_pure ?_)
    simp only [Bool.false_eq_true, if_false]
    refine wpAny_bind (L2.thn fin fun v s' hv => ?_)
    cases v with
    | none => exact hv.elim
    | some v => exact wpAny_pure (wpAny_pure hv)
  | true =>
    simp only [Bool.and_true, if_true]
    refine wpAny_bind ((looks_subIn X hsub).here ?_)
    simp only [Bool.false_eq_true, if_false, Bool.not_false, Bool.and_true, if_true]
    refine wpAny_bind ((nsip_K X hs hr).here ?_)
    simp only [if_true]
    refine wpAny_bind (wpAny_pure ?_)
    simp only [Bool.not_false, if_true]
    refine wpAny_bind ((looks_findIn X h2).here ?_)
    refine wpAny_bind (L2.thn fin fun v s' hv => ?_)
    cases v with
    | none => exact hv.elim
    | some v => exact wpAny_pure (wpAny_pure hv)
end PySem.W
namespace L2.Dl
open PySem PySem.Spec PyProof.Rows
section
variable {X : Cx} {C : Str} {g : Addr} {k : Nat} {sp : SpS} {a b : Expr} {ta tb : TD} {pos : Pos} {op : Operator}
def dOpX (C : Str) (sp : SpS) (ta tb : TD) : TD := fun ds M Z Q => ta ds M Z fun x M1 => tb ds M1 Z fun y M2 => optK (clsOf x M2) fun c => c.1 = C ∧ optK (tyN y) fun _ => ask sp [x, y] [] M2 Z Q
@[simp ↓] theorem dOpX_eq (C : Str) (sp : SpS) (ta tb : TD) : ∀ ds M Z Q, dOpX C sp ta tb ds M Z Q = (ta ds M Z fun x M1 => tb ds M1 Z fun y M2 => optK (clsOf x M2) fun c => c.1 = C ∧ optK (tyN y) fun _ => ask sp [x, y] [] M2 Z Q) := fun _ _ _ _ => rfl
def plainTs : List String := ["NoneType", "bool", "int", "str", "list", "tuple"]
def binXB (C : Str) (nm : String) (K : PySem.W.Frag) : Bool := binB C (PySem.dunder nm) K && (match PySem.W.findIn K (.ref (He.ga K C)) (PySem.dunderR nm) with | some none => true | _ => false) && plainTs.all fun t => (PySem.W.findIn K (.type t) (PySem.dunder nm)).isSome && (PySem.W.findIn K (.type t) (PySem.dunderR nm)).isSome && (match PySem.W.subIn K (.type t) (.ref (He.ga K C)) with | some false => true | _ => false)
structure BinX (K : PySem.W.Frag) (C : Str) (nm : String) (g : Addr) : Prop extends BinF K C (PySem.dunder nm) g where
  rr : PySem.W.findIn K (.ref (He.ga K C)) (PySem.dunderR nm) = some none
  ts : ∀ t ∈ plainTs, (∃ f', PySem.W.findIn K (.type t) (PySem.dunder nm) = some f') ∧ (∃ r', PySem.W.findIn K (.type t) (PySem.dunderR nm) = some r') ∧ PySem.W.subIn K (.type t) (.ref (He.ga K C)) = some false
theorem binXB_ok {K : PySem.W.Frag} {nm : String} (h : binXB C nm K = true) : BinX K C nm (He.fAd K (C, some (PySem.dunder nm))) := by
  unfold binXB at h
  simp only [Bool.and_eq_true, List.all_eq_true] at h
  obtain ⟨⟨h1, h2⟩, h3⟩ := h
  refine { toBinF := binB_ok h1, rr := ?_, ts := fun t ht => ?_ }
  · split at h2
    · rename_i e; exact e
    · cases h2
  · obtain ⟨⟨a, b⟩, c⟩ := h3 t ht
    refine ⟨Option.isSome_iff_exists.mp a, Option.isSome_iff_exists.mp b, ?_⟩
    split at c
    · rename_i e; exact e
    · cases c
theorem d_opX (q : BinX X.K C op.info.2 g) (Fn : FnS X.prog X.w X.K X.mg X.base k g [] sp) (hr : Room k X.A) (ha : PD X a ta) (hb : PD X b tb) : PD X (.BinOp a op b pos) (dOpX C sp ta tb) := by
  refine ⟨fun W tk F pins s σ H ds M Z Q I hs ht => wpAny_BinOp (thn (ha.run W tk F pins s σ H ds M Z _ I hs ht) fun v s1 ⟨x, H1, d1, M1, I1, r1, st1, mm1, rp1, q1⟩ => thn (hb.run W tk F pins s1 σ H1 ds M1 Z _ I1 (hs.to st1 mm1) q1) fun u s2 ⟨y, H2, d2, M2, I2, r2, st2, mm2, rp2, q2⟩ => ?_)⟩
  obtain ⟨⟨C', fs⟩, e1, hC, h⟩ := optK_ex q2
  have hC : C' = C := hC
  subst hC
  obtain ⟨t, e2, h3⟩ := optK_ex h
  have rp1' := rp1.step st2.fix
  obtain ⟨ax, od, ox, rfl, rfl, J⟩ := obj_at I2 mm2 rp1' r1 e1
  have ty : PySem.W.Looks (model X.prog X.w) s2.heap (typeOf u) (.type t) := by
    obtain ⟨P, Z, p, _⟩ := kit_of I2 r2 (rp2.tyx e2)
    exact Z.ty _ _ I2.kIn p
  obtain ⟨⟨f', h1⟩, ⟨r', h2⟩, hsub⟩ := q.ts t (tyN_mem e2)
  obtain ⟨m, hF⟩ := I2.fr
  refine PySem.W.binop_T hF I2.ok.mod.kin J ty q.sf q.at_ q.rr q.fn h1 h2 hsub (thn (run_inZ tk Fn hr I2.env0 I2 mm2 ((hs.kx.on st1).on st2) (us := [.ref ax, u]) (vs := [.ref ax, y]) (.cons rfl (.cons r2 .nil)) (.cons rp1' (.cons rp2 .nil)) h3) fun w s' hw => ?_)
  exact back_of (K := X.K) (EPD.up (st1.trans st2) hw)
end
end L2.Dl

namespace L2.Dl
open PySem PySem.Spec PyProof.Rows
section
variable {X : Cx} {W : WX} {k i : Nat} {f g p : Addr} {ks : List Str} {sp : SpS} {x m Cn C : Str} {pp pos apos : Pos} {e o fe : Expr} {es : List Expr} {t tk : TAD} {to tf : TD} {kws : List Keyword}
/-- cls(e, .., *a, ..) -/
theorem d_callLS (hv : PD X (.Name x pp) (dVar i)) (Cl : CalS X (He.ga X.K Cn) [] sp) (hk : PySem.W.keepIn X.K (.ref (He.ga X.K Cn)) = true) (ha : PAD X (e :: es) t) (he : notStar e = true := by rfl) (hst : es.any (fun e => !notStar e) = true := by rfl) : PD X (.Call (.Name x pp) (e :: es) [] pos) (dCallL i Cn sp t) := by
  refine ⟨fun W tks F pins s σ H ds M Z Q I hs ht => ?_⟩
  have ht : slotK ds[i]? fun v => v = .glo Cn ∧ t ds M Z fun xs M1 => ask sp xs [] M1 Z Q := ht
  unfold slotK at ht
  split at ht
  · rename_i v ev
    obtain ⟨rfl, ht⟩ := ht
    refine wpAny_Call_Name_kw (thn (hv.run W tks F pins s σ H ds M Z (fun d M' => d = .glo Cn ∧ M' = M) I hs (by show slotK ds[i]? _; rw [ev]; exact ⟨rfl, rfl⟩)) fun u s1 ⟨y, H1, d, M1, I1, ry, st, mm, rp, ed, em⟩ => ?_)
    subst ed em
    cases rp
    obtain rfl : u = Value.ref (He.ga X.K Cn) := ry
    refine PySem.W.callWith_S2 (h₀ := X.base) I.ok.mod.kin hk (thn (ha.run W tks pos F pins s1 σ H1 ds M1 Z _ I1 (hs.to st mm) ht) fun us s2 ⟨vs, H2, xs, M2, I2, r, st2, mm2, rp2, q⟩ => ⟨I2.kIn, ?_⟩) (star_cons he) (star_some hst)
    have s12 := st.trans st2
    exact thn (Cl W tks pins σ H2 s2 F M2 Z us [] vs [] xs [] Q I2 mm2 (hs.kx.on s12) r .nil rfl rp2 .nil q) fun u s' h => EPD.up s12 h
  · exact ht.elim
/-! ### instances that are called -/
def callB (C : Str) (K : PySem.W.Frag) : Bool := He.eqO (PySem.W.findIn K (.ref (He.ga K C)) "__call__") (some (some (.ref (He.fAd K (C, some "__call__"))))) && (PySem.W.isFn K (.ref (He.fAd K (C, some "__call__"))) && PySem.W.fnIn K (He.fAd K (C, some "__call__")))
theorem callB_ok {K : PySem.W.Frag} (h : callB C K = true) : StX.CallO K (He.ga K C) (He.fAd K (C, some "__call__")) := by
  unfold callB at h
  simp only [Bool.and_eq_true] at h
  exact ⟨He.eqO_ok h.1, h.2.1, h.2.2⟩
theorem run_callI {pins : List (Addr × Obj)} {σ : L2.St} {H : Hp} {s : Shared} {F : List Addr} {M : MM} {Z : XD} {a dx : Addr} {fs : List (Str × V)} {us ws : List Value} {vs zs : List V} {d : D} {xs ys : List D} {Q : QD} {Ca : Addr} (tk : Takes X W) (Fn : FnS X.prog X.w X.K X.mg X.base k g ks sp) (c : StX.CallO X.K Ca g) (hr : Room k X.A) (I : Inv X pins σ H s) (hi : H a = some (.ins Ca dx fs)) (mm : RMM X.K F H M) (kx : KW X.K F H M σ Z W)
    (r1 : Vals vs us) (r2 : Vals zs ws) (hl : zs.length = ks.length) (ra : Rep X.K (ak F M) H (.ref a) d) (r3 : RepA X.K (ak F M) H vs xs) (r4 : RepA X.K (ak F M) H zs ys) (h : sp (d :: xs) ys M Z Q) : wpAny (model X.prog X.w) X.A (call (.ref a) us (ks.zip ws)) (EPD X F pins σ H M Q) X.xe s := by
  obtain ⟨ox, od, J, hd⟩ := StX.insC_at I (.inr ⟨dx, fs, hi⟩)
  refine wpAny_call (PySem.W.kco_code I.kIn J hd c.at_ c.fn c.fi (codeAny_mono (Fn X.A X.stack s H (.ref a :: us) ws (.ref a :: vs) zs F (d :: xs) ys M Z Q (EQ X.K F H M Q) (fun c d H' => W c d σ H') hr I.env0 (.cons rfl r1) r2 hl mm (.cons ra r3) r4 h KQ.eq fun C fs vs d H' M' st mm' e n r q => kx C fs vs d H' M' st mm' e n r q) fun r s' hq => ?_))
  cases r with
  | error e => exact tk e s' (XE.of_call I (fun _ _ _ z => z) hq)
  | ok fl =>
    cases fl with
    | ret u =>
      obtain ⟨v, H', I', rv, d, M', st, mm', rp, q⟩ := I.after hq
      exact ⟨v, H', d, M', I', rv, st, mm', rp, q⟩
    | next => exact False.elim hq
    | brk => exact False.elim hq
    | cont => exact False.elim hq
/-- f(e, ..), f(k = v, ..): f an expression that gives an object of C -/
def dCallO (C : Str) (sp : SpS) (tf : TD) (t tk : TAD) : TD := fun ds M Z Q => tf ds M Z fun o M1 => optK (clsOf o M1) fun _ => t ds M1 Z fun xs M2 => tk ds M2 Z fun ys M3 => optK (clsOf o M3) fun c => c.1 = C ∧ ask sp (o :: xs) ys M3 Z Q
@[simp ↓] theorem dCallO_eq (C : Str) (sp : SpS) (tf : TD) (t tk : TAD) : ∀ ds M Z Q, dCallO C sp tf t tk ds M Z Q = (tf ds M Z fun o M1 => optK (clsOf o M1) fun _ => t ds M1 Z fun xs M2 => tk ds M2 Z fun ys M3 => optK (clsOf o M3) fun c => c.1 = C ∧ ask sp (o :: xs) ys M3 Z Q) := fun _ _ _ _ => rfl
theorem callO_kw {M : Model} {A : Around} {E : Value → Shared → Prop} {s : Shared} {a : Addr} {pos : Pos} {Q : Value → Shared → Prop} {args : List (Bool × Sem Value)} {kw : List (Option Str × Sem Value)} (hplain : (args.any (·.1) || kw.any (·.1.isNone)) = false)
    (h : wpAny M A (evalArgs (.ref a) true args kw) (fun z s₁ => (∃ C ox od, PySem.W.InstAt s₁.heap a ox C od ∧ ox.data = .plain) ∧ wpAny M A (call (.ref a) ([] ++ z.pos) z.kw) Q E s₁) E s) : wpAny M A (callWith pos (.ref a) [] args kw) Q E s := by
  unfold callWith
  refine wpAny_bind (wpAny_holding (wpAny_mono h (fun z s₁ h₁ => wpAny_bind (wpAny_standAt ?_)) fun _ _ y => y))
  obtain ⟨⟨C, ox, od, J, hd⟩, h₁⟩ := h₁
  have L := PySem.W.kco_keeper (M := M) J hd
  simp only [hplain]
  refine wpAny_bind (L.here ?_)
  have tail : ∀ {t : Sem Value}, wpAny M A t Q E s₁ → wpAny M A (t >>= fun r => holding [r] point >>= fun _ => pure r) Q E s₁ :=
    fun ht => wpAny_bind (wpAny_mono ht (fun r s₂ hr => wpAny_bind (wpAny_holding (wpAny_point (wpAny_pure hr)))) fun _ _ y => y)
  exact tail (wpAny_operateT h₁)
theorem d_callO (hf : PD X fe tf) (c : StX.CallO X.K (He.ga X.K C) g) (Fn : FnS X.prog X.w X.K X.mg X.base k g [] sp) (hr : Room k X.A) (ha : PAD X (e :: es) t)
    (hst : eval (.Call fe (e :: es) [] pos) X.env = (do callWith pos (← eval fe X.env) [] (backTo pos (starEach (e :: es) X.env)) (backToKw pos (keywordEach [] X.env))) := by rfl)
    (he : notStar e = true := by rfl) (hpl : noStars es = true := by rfl) : PD X (.Call fe (e :: es) [] pos) (dCallO C sp tf t dNil) := by
  refine ⟨fun W tks F pins s σ H ds M Z Q I hs ht => ?_⟩
  refine Call_ (thn (hf.run W tks F pins s σ H ds M Z _ I hs ht) fun u s1 ⟨y, H1, d, M1, I1, ry, st1, mm1, rp1, q1⟩ => ?_) hst
  obtain ⟨⟨C0, fs0⟩, e0, q1⟩ := optK_ex q1
  obtain ⟨a, dx0, vs0, rfl, h10, h20⟩ := clsOf_at mm1 rp1 e0
  obtain rfl : u = Value.ref a := ry
  refine StX.callO_with (thn (ha.run W tks pos F pins s1 σ H1 ds M1 Z _ I1 (hs.to st1 mm1) q1) fun us s2 ⟨vs, H2, xs, M2, I2, r, st2, mm2, rp2, q2⟩ => ?_) (star_cons he) (star_any hpl)
  obtain ⟨⟨C', fs⟩, e1, hC, h3⟩ := optK_ex (show optK (clsOf d M2) _ from q2)
  have hC : C' = C := hC
  subst hC
  obtain ⟨a', dx, vs', ea, h1, h2⟩ := clsOf_at mm2 (rp1.step st2.fix) e1
  cases ea
  obtain ⟨ox, od, J, hd⟩ := StX.insC_at I2 (.inr ⟨dx, _, h1⟩)
  have s12 := st1.trans st2
  exact ⟨⟨_, ox, od, J, hd⟩, thn (run_callI tks Fn c hr I2 h1 mm2 (hs.kx.on s12) r .nil rfl (rp1.step st2.fix) rp2 .nil h3) fun u s' h => EPD.up s12 h⟩
theorem d_callOK0 (hf : PD X fe tf) (c : StX.CallO X.K (He.ga X.K C) g) (Fn : FnS X.prog X.w X.K X.mg X.base k g ks sp) (hr : Room k X.A) (hkw : PKD X kws tk) (hks : kwsOk kws ks = true := by rfl)
    (hst : eval (.Call fe [] kws pos) X.env = (do callWith pos (← eval fe X.env) [] (backTo pos (starEach [] X.env)) (backToKw pos (keywordEach kws X.env))) := by rfl) : PD X (.Call fe [] kws pos) (dCallO C (fun xs ys M Z Q => ys.length = ks.length ∧ sp xs ys M Z Q) tf dNil tk) := by
  refine ⟨fun W tks F pins s σ H ds M Z Q I hs ht => ?_⟩
  rw [hst]
  refine wpAny_bind (thn (hf.run W tks F pins s σ H ds M Z _ I hs ht) fun u s1 ⟨y, H1, d, M1, I1, ry, st1, mm1, rp1, q1⟩ => ?_)
  obtain ⟨⟨C0, fs0⟩, e0, q1⟩ := optK_ex q1
  obtain ⟨a, dx0, vs0, rfl, h10, h20⟩ := clsOf_at mm1 rp1 e0
  obtain rfl : u = Value.ref a := ry
  refine callO_kw (by rw [star_any (es := []) rfl, kw_none hks]; rfl) (PyProof.Rows.evalArgs_kw2_nil (kw_all hks) (thn (hkw.run W tks pos F pins s1 σ H1 ds M1 Z _ I1 (hs.to st1 mm1) q1) fun ws s2 ⟨zs, H2, ys, M2, I2, rz, st2, mm2, rp2, q2⟩ => ?_))
  obtain ⟨⟨C', fs⟩, e1, hC, h3⟩ := optK_ex (show optK (clsOf d M2) _ from q2)
  have hC : C' = C := hC
  subst hC
  obtain ⟨a', dx, vs', ea, h1, h2⟩ := clsOf_at mm2 (rp1.step st2.fix) e1
  cases ea
  obtain ⟨ox, od, J, hd⟩ := StX.insC_at I2 (.inr ⟨dx, _, h1⟩)
  have s12 := st1.trans st2
  refine ⟨⟨_, ox, od, J, hd⟩, ?_⟩
  rw [kw_ks hks]
  exact thn (run_callI tks Fn c hr I2 h1 mm2 (hs.kx.on s12) .nil rz (by rw [rp2.len]; exact h3.1) (rp1.step st2.fix) .nil rp2 h3.2) fun u s' h => EPD.up s12 h
end
end L2.Dl

namespace L2.Dl
open PySem PySem.Spec PyProof.Rows
section
variable {X : Cx} {k i : Nat} {f g p C : Addr} {mc : Value} {ks : List Str} {sp : SpS} {x m Cn : Str} {pp pos apos : Pos} {e o : Expr} {es : List Expr} {t tk : TAD} {to : TD} {kws : List Keyword} {pl : Sem Bool}
/-! ### static methods: C.m(..) -/
structure SMet (K : PySem.W.Frag) (C : Addr) (mc : Value) (m : Str) (p g : Addr) : Prop where
  at_ : PySem.W.findCls K (.ref C) mc m = some (.get (.builtin "staticmethod.__get__") (.ref p) .none (.ref C))
  rc : ∃ rest, PySem.W.recIn K p "staticmethod" = some (.ref g :: rest)
def smB (C m : Str) (K : PySem.W.Frag) : Bool := PySem.W.readsIn K (He.ga K C) (.type "type") && (He.eqO (PySem.W.specialIn K (.ref (He.ga K C)) "__getattribute__") (some (some (.builtin "type.__getattribute__"))) && ((match PySem.W.findCls K (.ref (He.ga K C)) (.type "type") m with
  | some (.get (.builtin i) (.ref p) .none (.ref D)) => decide (i = "staticmethod.__get__") && (decide (p = He.fAd K (C, some m)) && decide (D = He.ga K C))
  | _ => false) && recB K (C, some m) "staticmethod"))
theorem smB_ok {C m : Str} {K : PySem.W.Frag} (h : smB C m K = true) : ClX.CRead K (He.ga K C) (.type "type") ∧ SMet K (He.ga K C) (.type "type") m (He.fAd K (C, some m)) (adR K (C, some m)) := by
  obtain ⟨h1, h⟩ := He.ba h
  obtain ⟨h2, h⟩ := He.ba h
  obtain ⟨h3, h4⟩ := He.ba h
  refine ⟨⟨h1, He.eqO_ok h2⟩, ⟨?_, recB_ok h4⟩⟩
  split at h3
  · rename_i i p D e
    obtain ⟨k1, k2⟩ := He.ba h3
    obtain ⟨k2, k3⟩ := He.ba k2
    rw [e, of_decide_eq_true k1, of_decide_eq_true k2, of_decide_eq_true k3]
  · cases h3
theorem getsm_ok {A : Around} {E : Value → Shared → Prop} {pins : List (Addr × Obj)} {σ : L2.St} {H : Hp} {s : Shared} {pl : Sem Bool} {Q : Value × List Value → Shared → Prop} (I : Inv X pins σ H s) (r : ClX.CRead X.K C mc) (k : SMet X.K C mc m p g)
    (h : ∀ s', Inv X pins σ H s' → Q (.ref g, []) s') : wpAny (model X.prog X.w) A (getMethod (.ref C) m pl) Q E s := by
  obtain ⟨rest, hp⟩ := k.rc
  exact PySem.W.method_cls I.kIn r.ga (PySem.W.cls_bind I.kIn r.rd k.at_ (wpAny_call (PySem.W.sm_get (s := { s with toks := s.toks + 1 }) I.kIn hp (PySem.W.handed_on rfl (h _ (I.tok _))))))
def dSMeth (Cn : Str) (sp : SpS) (to : TD) (t tk : TAD) : TD := fun ds M Z Q => to ds M Z fun o M1 => o = .glo Cn ∧ t ds M1 Z fun xs M2 => tk ds M2 Z fun ys M3 => ask sp xs ys M3 Z Q
@[simp ↓] theorem dSMeth_eq (Cn : Str) (sp : SpS) (to : TD) (t tk : TAD) : ∀ ds M Z Q, dSMeth Cn sp to t tk ds M Z Q = (to ds M Z fun o M1 => o = .glo Cn ∧ t ds M1 Z fun xs M2 => tk ds M2 Z fun ys M3 => ask sp xs ys M3 Z Q) := fun _ _ _ _ => rfl
theorem d_smeth (r : ClX.CRead X.K (He.ga X.K Cn) mc) (c : SMet X.K (He.ga X.K Cn) mc m p g) (Cl : CalS X g [] sp) (hk : PySem.W.keepIn X.K (.ref g) = true) (ho : PD X o to) (ha : PAD X (e :: es) t) (hpl : noStars (e :: es) = true := by rfl)
    (hev : eval (.Call (.Attribute o m apos) (e :: es) [] pos) X.env = (do
      let ov ← eval o X.env
      standAt apos.atName
      let (f, first) ← holding [ov] (getMethod ov m pl)
      callWith pos f first (backTo pos (starEach (e :: es) X.env)) (backToKw pos (keywordEach [] X.env))) := by rfl) : PD X (.Call (.Attribute o m apos) (e :: es) [] pos) (dSMeth Cn sp to t dNil) := by
  refine ⟨fun W tks F pins s σ H ds M Z Q I hs ht => ?_⟩
  have he : notStar e = true := (Bool.and_eq_true_iff.mp (show (notStar e && es.all notStar) = true from hpl)).1
  have hes : noStars es = true := (Bool.and_eq_true_iff.mp (show (notStar e && es.all notStar) = true from hpl)).2
  refine PySem.W.methodCall_KW (pl := pl) (thn (ho.run W tks F pins s σ H ds M Z _ I hs ht) fun u s1 ⟨x, H1, d, M1, I1, rx, st, mm, rp, ed, q⟩ => ?_) hev
  subst ed
  cases rp
  obtain rfl : u = Value.ref (He.ga X.K Cn) := rx
  refine getsm_ok I1 r c fun s2 I2 => ?_
  refine PySem.W.callWith_K (h₀ := X.base) I2.ok.mod.kin hk (thn (ha.run W tks pos F _ s2 σ H1 ds M1 Z _ I2 (hs.to st mm) q) fun us s3 ⟨vs, H2, xs, M2, I3, rv, st2, mm2, rp2, q2⟩ => ⟨I3.kIn, ?_⟩) (star_cons he) (star_any hes)
  have s12 := st.trans st2
  exact thn (Cl W tks pins σ H2 s3 F M2 Z us [] vs [] xs [] Q I3 mm2 (hs.kx.on s12) rv .nil rfl rp2 .nil q2) fun u s' h => EPD.up s12 h
theorem d_smeth0 (r : ClX.CRead X.K (He.ga X.K Cn) mc) (c : SMet X.K (He.ga X.K Cn) mc m p g) (Cl : CalS X g [] sp) (hk : PySem.W.keepIn X.K (.ref g) = true) (ho : PD X o to)
    (hev : eval (.Call (.Attribute o m apos) [] [] pos) X.env = (do
      let ov ← eval o X.env
      standAt apos.atName
      let (f, first) ← holding [ov] (getMethod ov m pl)
      callWith pos f first (backTo pos (starEach [] X.env)) (backToKw pos (keywordEach [] X.env))) := by rfl) : PD X (.Call (.Attribute o m apos) [] [] pos) (dSMeth Cn sp to dNil dNil) := by
  refine ⟨fun W tks F pins s σ H ds M Z Q I hs ht => ?_⟩
  refine PySem.W.methodCall_KW (pl := pl) (thn (ho.run W tks F pins s σ H ds M Z _ I hs ht) fun u s1 ⟨x, H1, d, M1, I1, rx, st, mm, rp, ed, q⟩ => ?_) hev
  subst ed
  cases rp
  obtain rfl : u = Value.ref (He.ga X.K Cn) := rx
  refine getsm_ok I1 r c fun s2 I2 => ?_
  exact PySem.W.callWith_K0 I2.kIn hk (thn (Cl W tks pins σ H1 s2 F M1 Z [] [] [] [] [] [] Q I2 mm (hs.kx.on st) .nil .nil rfl .nil .nil q) fun u s' h => EPD.up st h)
theorem d_smethK (r : ClX.CRead X.K (He.ga X.K Cn) mc) (c : SMet X.K (He.ga X.K Cn) mc m p g) (Cl : CalS X g ks sp) (hk : PySem.W.keepIn X.K (.ref g) = true) (ho : PD X o to) (ha : PAD X (e :: es) t) (hkw : PKD X kws tk) (hks : kwsOk kws ks = true := by rfl) (hpl : noStars (e :: es) = true := by rfl)
    (hev : eval (.Call (.Attribute o m apos) (e :: es) kws pos) X.env = (do
      let ov ← eval o X.env
      standAt apos.atName
      let (f, first) ← holding [ov] (getMethod ov m pl)
      callWith pos f first (backTo pos (starEach (e :: es) X.env)) (backToKw pos (keywordEach kws X.env))) := by rfl) : PD X (.Call (.Attribute o m apos) (e :: es) kws pos) (dSMeth Cn (fun xs ys M Z Q => ys.length = ks.length ∧ sp xs ys M Z Q) to t tk) := by
  refine ⟨fun W tks F pins s σ H ds M Z Q I hs ht => ?_⟩
  have he : notStar e = true := (Bool.and_eq_true_iff.mp (show (notStar e && es.all notStar) = true from hpl)).1
  refine PySem.W.methodCall_KW (pl := pl) (thn (ho.run W tks F pins s σ H ds M Z _ I hs ht) fun u s1 ⟨x, H1, d, M1, I1, rx, st, mm, rp, ed, q⟩ => ?_) hev
  subst ed
  cases rp
  obtain rfl : u = Value.ref (He.ga X.K Cn) := rx
  refine getsm_ok I1 r c fun s2 I2 => ?_
  refine PySem.W.callWith_KW (h₀ := X.base) I2.ok.mod.kin hk (kw_all hks) (thn (ha.run W tks pos F pins s2 σ H1 ds M1 Z _ I2 (hs.to st mm) q) fun us s3 ⟨vs, H2, xs, M2, I3, rv, st2, mm2, rp2, q2⟩ => ?_) (by rw [star_any hpl, kw_none hks]; rfl) (star_cons he)
  have s12 := st.trans st2
  refine thn (hkw.run W tks pos F pins s3 σ H2 ds M2 Z _ I3 (hs.to s12 mm2) q2) fun ws s4 ⟨zs, H3, ys, M3, I4, rz, st3, mm3, rp3, q3⟩ => ⟨I4.kIn, ?_⟩
  rw [kw_ks hks]
  have s13 := s12.trans st3
  exact thn (Cl W tks pins σ H3 s4 F M3 Z us ws vs zs xs ys Q I4 mm3 (hs.kx.on s13) rv rz (by rw [rp3.len]; exact q3.1) (rp2.step st3.fix) rp3 q3.2) fun u s' h => EPD.up s13 h
end
end L2.Dl

namespace L2.Dl
open PySem PySem.Spec PyProof.Rows TL
section
variable {X : Cx}
theorem spl_sub (S : List Nat) : ∀ (l : List Nat) (k : Nat) (acc p : List Nat), p ∈ spl S k acc l → ∀ c ∈ p, c ∈ acc ∨ c ∈ l
  | [], k, acc, p, h, c, hc => by
    rw [spl_nil] at h
    simp at h
    subst h
    exact .inl hc
  | d :: r, 0, acc, p, h, c, hc => by
    unfold spl at h
    split at h
    · rcases List.mem_cons.mp h with rfl | h
      · exact .inl hc
      · rcases spl_sub S r _ _ p h c hc with h | h
        · cases h
        · exact .inr (List.mem_cons_of_mem _ h)
    · rcases spl_sub S r _ _ p h c hc with h | h
      · rcases List.mem_append.mp h with h | h
        · exact .inl h
        · simp at h
          subst h
          exact .inr List.mem_cons_self
      · exact .inr (List.mem_cons_of_mem _ h)
  | d :: r, k + 1, acc, p, h, c, hc => by
    unfold spl at h
    rcases spl_sub S r _ _ p h c hc with h | h
    · exact .inl h
    · exact .inr (List.mem_cons_of_mem _ h)
theorem okS_split {a b : Str} (ha : PyData.strOk a = true) (hb : (b.length == 0) = false) (hk : b.cps.all (· < 256) = true) : (Txt.split a b).all PyData.strOk = true := by
  have hy : tl b ≠ [] := by
    intro e
    have : b.cps.toList.length = 0 := by
      have e : b.cps.toList = [] := e
      rw [e]
      rfl
    have h2 : b.length = 0 := by
      have : b.cps.toList.length = b.length := Array.length_toList
      omega
    rw [h2] at hb
    cases hb
  have e := split_spl a b hy (kind_ok hk)
  rw [List.all_eq_true]
  intro x hx
  have hx : tl x ∈ spl (tl b) 0 [] (tl a) := by
    rw [← e]
    exact List.mem_map.mpr ⟨x, hx, rfl⟩
  rw [okS_iff]
  intro c hc
  rcases spl_sub _ _ _ _ _ hx c hc with h | h
  · cases h
  · exact okS_iff.mp ha c h
def dSplit2 : RMD := fun x xs M Q => match x, xs with
  | .str a, [.str b] => (b.length == 0) = false ∧ b.cps.all (· < 256) = true ∧ a.length + 2 ≤ sizeLine ∧ Q (.lst ((Txt.split a b).map D.str)) M
  | _, _ => False
@[simp ↓] theorem dSplit2_eq : ∀ x xs M Q, dSplit2 x xs M Q = (match x, xs with
  | .str a, [.str b] => (b.length == 0) = false ∧ b.cps.all (· < 256) = true ∧ a.length + 2 ≤ sizeLine ∧ Q (.lst ((Txt.split a b).map D.str)) M
  | _, _ => False) := fun _ _ _ _ => rfl
theorem m_split2 : MtD X "str.split" dSplit2 := by
  refine ⟨_, mt_split, fun F H M x vs dx xs Q QV mm rx rp hr k => ?_⟩
  match dx, xs, hr with
  | .str a, [.str b], hr =>
    cases rx with
    | str _ ha =>
      obtain ⟨v, rfl, r⟩ := repA1 rp
      cases r
      exact ⟨a, b, rfl, rfl, hr.1, hr.2.2.1, k.newL mm (repA_strs _ (okS_split ha hr.1 hr.2.1)) hr.2.2.2⟩
/-- list(x): a new list that may change -/
theorem KQ.newM {K : PySem.W.Frag} {F : List Addr} {H : Hp} {M : MM} {Q : QD} {QV : VK} (k : KQ K F H M Q QV) (mm : RMM K F H M) {vs : List V} {xs : List D} (r : RepA K (ak F M) H vs xs) (q : ∀ p, p ∉ keys M → Q (.ref p) ((p, .lst xs) :: M)) : ∀ p, H p = none → QV (.ref p) (upd H p (.lst vs)) := fun p hp => by
  have hn := mm.notin hp
  rw [List.mem_append, not_or] at hn
  exact k _ _ _ ((p, .lst xs) :: M) (stp_cons hp) (mm.consL hp r) (.ref p) (q p hn.1)
def dListM : RCD := fun xs M Q => match xs with
  | [.lst ys] => ∀ p, p ∉ keys M → Q (.ref p) ((p, .lst ys) :: M)
  | [.tup ys] => ∀ p, p ∉ keys M → Q (.ref p) ((p, .lst ys) :: M)
  | [.ref a] => lstK (M.lookup a) fun ys => ∀ p, p ∉ keys M → Q (.ref p) ((p, .lst ys) :: M)
  | _ => False
@[simp ↓] theorem dListM_eq : ∀ xs M Q, dListM xs M Q = (match xs with
  | [.lst ys] => ∀ p, p ∉ keys M → Q (.ref p) ((p, .lst ys) :: M)
  | [.tup ys] => ∀ p, p ∉ keys M → Q (.ref p) ((p, .lst ys) :: M)
  | [.ref a] => lstK (M.lookup a) fun ys => ∀ p, p ∉ keys M → Q (.ref p) ((p, .lst ys) :: M)
  | _ => False) := fun _ _ _ => rfl
theorem k_listM : CallD X (.type "list") dListM := by
  refine ⟨_, call_list_of, fun F H M vs xs Q QV mm rp hr k => ?_⟩
  match xs, hr with
  | [.lst ys], hr =>
    obtain ⟨v, rfl, r⟩ := repA1 rp
    cases r with
    | lst hx r => exact ⟨_, _, rfl, .inl hx.sq, k.newM mm r hr⟩
  | [.tup ys], hr =>
    obtain ⟨v, rfl, r⟩ := repA1 rp
    cases r with
    | tup hx r => exact ⟨_, _, rfl, .inr hx.sq, k.newM mm r hr⟩
  | [.ref a], hr =>
    obtain ⟨v, rfl, r⟩ := repA1 rp
    cases r
    have hr : lstK (M.lookup a) (fun ys => ∀ p, p ∉ keys M → Q (.ref p) ((p, .lst ys) :: M)) := hr
    unfold lstK at hr
    split at hr
    · rename_i ys e
      obtain ⟨ws, h1, h2⟩ := mm.get e
      exact ⟨_, _, rfl, .inl (.inl (.inl h1)), k.newM mm h2 hr⟩
    · exact hr.elim
end
end L2.Dl

namespace L2.Dl
open PySem PySem.Spec PyProof.Rows
/-! ### def f(*v, k=c): keyword-only parameters behind the star -/
section
variable {CX : CXT} {P : Program} {w : World} {K : PySem.W.Frag} {mg : Str → Option Value} {base : Heap} {k : Nat} {f : Addr} {name qual : Str} {params : Arguments} {body : List Stmt} {scope : Scope} {dV kV doc pm cdv ct oc : Value} {an od : Option Addr}
  {osl : Array (Option Value)} {N ps : List Str} {sp : Sp}
/-- the keyword-only values are ks (names kn), given or read -/
theorem fn_starE {pv : Str} {kn : List Str} {kw : List (Str × Value)} {ks : List Value} {vk : List V} (lk : K.lookup f = some ⟨oc, od, .func (PySem.W.fnOf name qual params body scope dV kV doc pm an cdv ct), osl⟩) (hcd : PySem.W.codeIn K cdv qual = true) (S : FnScope N (kn ++ [pv]) scope) (hCX : StX.CXUp CX)
    (rk : Vals vk ks) (hkn : kn.length = ks.length) (rest : List Value)
    (hb : ∀ (A : Around) (Q : List (Str × Value) → Shared → Prop) (E : Value → Shared → Prop) (s : Shared), K.In s.heap → wpAny (model P w) A (newTuple rest) (fun t s' => Q (kn.zip ks ++ [(pv, t)]) s') E s → wpAny (model P w) A (bindArgs (PySem.W.fnOf name qual params body scope dV kV doc pm an cdv ct) ⟨rest, kw⟩) Q E s)
    (hbody : ∀ (A : Around) (outer : List Env) (s : Shared) (H : Hp) (vs : List V) (Q : VK) (E : XK), Room k (A.deeper (envOfC qual scope s.heap.objs.size f cdv)) → sp vs H Q E →
      ∃ t, PSs (cxOf CX P w K mg base N qual scope f cdv A outer s H E) body t ∧ t { nx := fun _ H' => Q .non H', rt := Q } (start N vs) H)
    (A : Around) (outer : List Env) (s : Shared) (H : Hp) (vs : List V) (Q : VK) (E : XK) (hr : Room (k + 1) A) (e0 : Env0 P w K mg base A outer s H) (r : Vals vs rest) (hz : vs.length ≤ sizeLine) (hq : ∀ p, H p = Option.none → sp (vk ++ [V.ref p]) (upd H p (.tup vs)) Q E) :
    codeAny (model P w) A (.call (.ref f) ⟨rest, kw⟩) (CR CX outer P w H s Q E) s := by
  have hn : H s.heap.objs.size = Option.none := e0.hok.fresh (Nat.le_refl _)
  have hl2 : rest.length ≤ sizeLine := by rw [← r.length]; exact hz
  refine StX.run_bnd lk hcd S hr e0 (G := fun xs H2 => ∃ p, H p = Option.none ∧ xs = vk ++ [V.ref p] ∧ H2 = upd H p (.tup vs)) (fun A' Ex Q' h => ?_) fun s2 H2 xs ⟨p, hp, ex, eH⟩ hr' => ?_
  · have KX0 : K.In s.heap := e0.mod.kin.keeps fun b o e => (e0.bs b o e).1
    refine hb _ _ _ _ KX0 (wpAny_newTuple ?_ hl2)
    have new : ObjOk P w (upd H s.heap.objs.size (.tup vs)) (s.heap.push ({ cls := .type "tuple", data := .seq rest.toArray } : Obj)) s.heap.objs.size (.tup vs) := ⟨hz, rest, r, ⟨_, Heap.get?_push_size _ rfl, rfl, _, rfl⟩⟩
    have un := StX.un_laid (fs := frs outer) (s := s) (o := ({ cls := .type "tuple", data := .seq rest.toArray } : Obj)) (u := .tup vs) hn
    have e1 := StX.env0_laid e0 new
    have z := h _ _ (vk ++ [V.ref s.heap.objs.size]) (ks ++ [Value.ref s.heap.objs.size]) e1 un rfl (fun e s' => hCX outer s H _ _ E e s' un (fun b o q => Heap.get?_push_of_some _ q) rfl) (rk.append (.cons rfl .nil))
      (by rw [List.length_append, List.length_append, rk.length, hkn] <;> rfl) ⟨_, hn, rfl, rfl⟩
    rw [List.zip_append hkn] at z
    exact z
  · subst ex eH
    exact hbody A outer s2 _ _ Q E hr' (hq p hp)
end
section
variable {P : Program} {w : World} {K : PySem.W.Frag} {mg : Str → Option Value} {base : Heap} {k : Nat} {f : Addr} {x qual : Str} {params : Arguments} {body : List Stmt} {scope : Scope} {fd : FuncData} {N : List Str} {sp : SpD}
/-- .. the default is read -/
theorem fns_starD {pv kn : Str} {dv : V} {dd : D} (Fn : FunD K x qual params body scope [] [(kn, dv)] f fd) (S : FnScope N [kn, pv] scope) {t : TSD} (hb : BodyD P w K mg base N qual scope f k body t)
    (hbind : ∀ (D : Addr) (doc pm : Value) (an : Option Addr) (cdv ct : Value) (rest : List Value) (kv : Value), ∃ (β γ : Type) (k1 : Option Value → Sem β) (k2 : β → Sem γ) (k3 : γ → Sem (List (Str × Value))) (a : β), bindArgs (PySem.W.fnOf x qual params body scope .none (.ref D) doc pm an cdv ct) ⟨rest, []⟩ = (((nsGet D kn >>= k1) >>= k2) >>= k3) ∧ k1 (some kv) = pure a ∧ (k2 a >>= k3) = (newTuple rest >>= fun t => pure [(kn, kv), (pv, t)]))
    (hd : ∀ B H, Rep K B H dv dd)
    (hp : ∀ xs M Z Q, sp xs M Z Q → t { nx := fun _ M' => Q .non M', rt := Q, xc := fun C fs _ M' => Z C fs M' } (startD N xs) M) :
    FnS P w K mg base (k + 1) f [] (fun xs _ M Z Q => xs.length ≤ sizeLine ∧ sp [dd, .tup xs] M Z Q) := by
  obtain ⟨oc, od, dV, kV, doc, pm, an, cdv, ct, osl, rfl, lk, hcd, hD, hK⟩ := Fn.ex
  rcases hD with ⟨_, rfl⟩ | ⟨e, _⟩
  · rcases hK with e | ⟨D, rfl, hq⟩
    · cases e
    · obtain ⟨ks, hl, rk, hks⟩ := kwd_vals hq
      match ks, hl with
      | [kv], _ =>
      intro A outer s H us ws vs zs F xs ys M Z QD Q E hr e0 r1 r2 hl mm a b h kq kx
      match ws, zs, r2, hl with
      | _, [], .nil, _ =>
      refine fn_starE (sp := spOf K sp) (pv := pv) (kn := [kn]) (kw := []) (ks := [kv]) (vk := [dv]) lk hcd S StX.cxUp rk rfl us ?_ (fun A outer s H vs Q E hr h => body_run hb hp cdv A outer s H vs Q E hr h) A outer s H vs Q E hr e0 r1 (by rw [a.len]; exact h.1) fun p hp => ?_
      · obtain ⟨β, γ, k1, k2, k3, a, h1, h2, h3⟩ := hbind D doc pm an cdv ct us kv
        intro A Q E s X hq
        have l1 : PySem.W.Looks (model P w) s.heap (nsGet D kn >>= k1) a := (PySem.W.looks_nsIn X (hks (kn, kv) (List.mem_cons_self ..))).andThen (PySem.W.Looks.of_pure h2)
        rw [h1, bind_assoc]
        refine wpAny_bind (l1.here ?_)
        rw [h3]
        exact wpAny_bind (thn hq fun t s' z => wpAny_pure z)
      · refine ⟨F, [dd, .tup xs], M, Z, QD, mm.new hp, ?_, h.2, fun v H' d M' st mm' rp q => kq v H' d M' ((stp_new hp).trans st) mm' rp q, fun C fs vs d H' M' st mm' e n r q => kx C fs vs d H' M' ((stp_new hp).trans st) mm' e n r q⟩
        exact .cons (hd _ _) (.cons (mm.newT hp a) .nil)
  · exact absurd rfl e
/-- .. it is given -/
theorem fns_starK {pv kn : Str} {kws : List (Str × V)} (Fn : FunD K x qual params body scope [] kws f fd) (S : FnScope N [kn, pv] scope) {t : TSD} (hb : BodyD P w K mg base N qual scope f k body t)
    (hbind : ∀ (kV doc pm : Value) (an : Option Addr) (cdv ct : Value) (rest : List Value) (kv : Value), bindArgs (PySem.W.fnOf x qual params body scope .none kV doc pm an cdv ct) ⟨rest, [(kn, kv)]⟩ = (newTuple rest >>= fun t => pure [(kn, kv), (pv, t)]))
    (hp : ∀ xs M Z Q, sp xs M Z Q → t { nx := fun _ M' => Q .non M', rt := Q, xc := fun C fs _ M' => Z C fs M' } (startD N xs) M) :
    FnS P w K mg base (k + 1) f [kn] (fun xs ys M Z Q => xs.length ≤ sizeLine ∧ sp (ys ++ [.tup xs]) M Z Q) := by
  obtain ⟨oc, od, dV, kV, doc, pm, an, cdv, ct, osl, rfl, lk, hcd, hD, hK⟩ := Fn.ex
  rcases hD with ⟨_, rfl⟩ | ⟨e, _⟩
  · intro A outer s H us ws vs zs F xs ys M Z QD Q E hr e0 r1 r2 hl mm a b h kq kx
    obtain ⟨vk, rfl⟩ := List.length_eq_one_iff.mp (show zs.length = 1 from hl)
    obtain ⟨kv, ws', rfl, r2, r3⟩ : ∃ kv ws', ws = kv :: ws' ∧ RelV vk kv ∧ Vals [] ws' := by
      cases r2 with
      | cons h t => exact ⟨_, _, rfl, h, t⟩
    cases r3
    refine fn_starE (sp := spOf K sp) (pv := pv) (kn := [kn]) (kw := [(kn, kv)]) (ks := [kv]) (vk := [vk]) lk hcd S StX.cxUp r2 rfl us ?_ (fun A outer s H vs Q E hr h => body_run hb hp cdv A outer s H vs Q E hr h) A outer s H vs Q E hr e0 r1 (by rw [a.len]; exact h.1) fun p hp => ?_
    · intro A Q E s X hq
      rw [hbind kV doc pm an cdv ct us kv]
      exact wpAny_bind (thn hq fun t s' z => wpAny_pure z)
    · refine ⟨F, ys ++ [.tup xs], M, Z, QD, mm.new hp, ?_, h.2, fun v H' d M' st mm' rp q => kq v H' d M' ((stp_new hp).trans st) mm' rp q, fun C fs vs d H' M' st mm' e n r q => kx C fs vs d H' M' ((stp_new hp).trans st) mm' e n r q⟩
      exact (b.step (stp_new hp).fix).append (.cons (mm.newT hp a) .nil)
  · exact absurd rfl e
end
end L2.Dl

namespace L2.Dl
open PySem PySem.Spec PyProof.Rows
section
variable {X : Cx}
/-- xs.index(n) of texts -/
def dIndexS : RMD := fun x xs M Q => match x, xs with
  | .lst ys, [.str n] => optK (strsD ys) fun ns => optK (ns.findIdx? fun m => decide (m = n)) fun j => Q (.int (j : Nat)) M
  | _, _ => False
@[simp ↓] theorem dIndexS_eq : ∀ x xs M Q, dIndexS x xs M Q = (match x, xs with
  | .lst ys, [.str n] => optK (strsD ys) fun ns => optK (ns.findIdx? fun m => decide (m = n)) fun j => Q (.int (j : Nat)) M
  | _, _ => False) := fun _ _ _ _ => rfl
theorem m_indexS : MtD X "list.index" dIndexS := by
  refine ⟨_, mt_index, fun F H M x vs dx xs Q QV mm rx rp hr k => ?_⟩
  match dx, xs, hr with
  | .lst ys, [.str n], hr =>
    obtain ⟨ns, e1, hr⟩ := optK_ex hr
    obtain ⟨j, e2, hr⟩ := optK_ex hr
    cases rx with
    | lst hx r =>
      obtain ⟨v, rfl, r1⟩ := repA1 rp
      cases r1 with
      | str _ hn =>
        have ev := r.strs e1
        subst ev
        rw [List.findIdx?_eq_some_iff_getElem] at e2
        obtain ⟨hj, h1, h2⟩ := e2
        have h1 : ns[j] = n := of_decide_eq_true h1
        refine ⟨_, ns.map V.str, .str n, j, .str n, rfl, rfl, hx.sq, rfl, ?_, ?_, ?_, ?_, k.at mm (.int _) hr⟩
        · rw [List.all_map, List.all_eq_true]
          intro z _
          rfl
        · rw [List.getElem?_map, List.getElem?_eq_getElem hj, h1]
          rfl
        · simp [eqV]
        · intro m z' hm hz
          rw [List.getElem?_map] at hz
          have hml : m < ns.length := by omega
          rw [List.getElem?_eq_getElem hml] at hz
          cases hz
          have := h2 m hm
          simp at this
          simp [eqV, this]
/-- -e -/
def dNeg (ta : TD) : TD := fun ds M Z Q => ta ds M Z fun x M1 => match x with | .int i => Q (.int (-i)) M1 | _ => False
@[simp ↓] theorem dNeg_eq (ta : TD) : ∀ ds M Z Q, dNeg ta ds M Z Q = (ta ds M Z fun x M1 => match x with | .int i => Q (.int (-i)) M1 | _ => False) := fun _ _ _ _ => rfl
theorem d_neg {a : Expr} {ta : TD} {pos : Pos} (ha : PD X a ta) : PD X (.UnaryOp .USub a pos) (dNeg ta) := by
  refine PD.of (fun W tk => pe_un un_neg (ha.pe tk)) fun W F σ H ds M Z Q hs ht => ⟨F, ds, M, Z, _, hs, ht, fun v H' d M' st mm rp q => ?_⟩
  cases d with
  | int i =>
    cases rp
    exact ⟨i, rfl, _, M', st, mm, .int _, q⟩
  | _ => exact q.elim
end
end L2.Dl

namespace L2.Dl
open PySem PySem.Spec PyProof.Rows
/-! ### the hook over written addresses -/
def obsAG (as : List Addr) (fa : List He.Fa) (fn : List He.DefD) (fx : List (PySem.W.Frag → Bool)) (fe fr : List He.DefD) (g : Addr → Option Obj) : AlL :=
  let K := frL g as
  (obsZ fa fn fx fe fr K, tabG g K)
def hookA (as : List Addr) (fa : List He.Fa) (fn : List He.DefD) (fx : List (PySem.W.Frag → Bool)) (fe fr : List He.DefD) : PySem.W.Hook where
  α := AlL
  obs := fun s => obsAG as fa fn fx fe fr s.heap.get?
  val := fun _ => (vaZ fn fe fr, true)
  says := fun _ h => ∃ K : PySem.W.Frag, K.In h ∧ SaysZ fa fn fx fe fr K ∧ ∃ c P, lawTab K = some (c, P) ∧ K.lookup P = none ∧ h.get? P = some { cls := .none, data := .fields #[] }
  of := fun w s e => by
    have e : obsAG as fa fn fx fe fr s.heap.get? = (vaZ fn fe fr, true) := e
    unfold obsAG at e
    have e1 : obsZ fa fn fx fe fr (frL s.heap.get? as) = vaZ fn fe fr := congrArg (fun z : AlL => z.1) e
    have e2 : tabG s.heap.get? (frL s.heap.get? as) = true := congrArg (fun z : AlL => z.2) e
    refine ⟨_, frL_in, e1, ?_⟩
    unfold tabG at e2
    split at e2
    · rename_i c P q
      obtain ⟨h1, h2⟩ := Bool.and_eq_true_iff.mp e2
      refine ⟨c, P, q, Option.isNone_iff_eq_none.mp h2, ?_⟩
      split at h1
      · rename_i o qo
        rw [qo, emptyTab_ok h1]
      · cases h1
    · cases e2
  keeps := fun _ _ _ ⟨K, hK, c, a, P, h1, h2, h3⟩ k => ⟨K, PySem.W.Frag.In.keeps hK k, c, a, P, h1, h2, k _ _ h3⟩
theorem obsAG_eq {as : List Addr} {fa : List He.Fa} {fn : List He.DefD} {fx : List (PySem.W.Frag → Bool)} {fe fr : List He.DefD} {g : Addr → Option Obj} {s : Shared} (h : ∀ a, g a = s.heap.get? a) : obsAG as fa fn fx fe fr g = (hookA as fa fn fx fe fr).obs s := by
  have e : g = s.heap.get? := funext h
  rw [e] <;> rfl
end L2.Dl

namespace L2.Dl
open PySem PySem.Spec PyProof.Rows
section
variable {X : Cx} {e : Expr} {te : TD} {pos tp : Pos}
/-- a, b = xs: xs a list -/
def dAsgL (te : TD) (is : List Nat) : TSD := fun E ds M => te ds M (E.xd ds) fun d M1 => match d with
  | .lst xs => xs.length = is.length ∧ letK (setAll is xs ds) fun ds' => E.nx ds' M1
  | _ => False
@[simp ↓] theorem dAsgL_eq (te : TD) (is : List Nat) : ∀ E ds M, dAsgL te is E ds M = (te ds M (E.xd ds) fun d M1 => match d with
  | .lst xs => xs.length = is.length ∧ letK (setAll is xs ds) fun ds' => E.nx ds' M1
  | _ => False) := fun _ _ _ => rfl
theorem s_asgL {es : List Expr} {k : Nat} {is : List Nat} (hc : X.calm = true) (he : PD X e te) (h : PGs X es (gNames is)) (hn : es.length = is.length := by rfl) (hst : noStars es = true := by rfl) (hs : swapsWithSole [.Tuple es k tp] e pos.line X.env = pure false := by rfl) (hw : swappedStores [.Tuple es k tp] e X.env = pure none := by rfl) :
    PSD X (.Assign [.Tuple es k tp] e pos) (dAsgL te is) := by
  have hg : PG X (.Tuple es k tp) (gUnl X.K is.length (gNames is)) := pg_unl hc h (by rw [asg_each hst]; simpa using hn) (by rw [asg_each hst]; exact asg_none)
  refine PSD.of (fun W tk => ps_asg (he.pe tk) hg hs hw (by rw [asg_cons rfl]; simp [assignEach])) fun W F σ H ds M E hs kx ht => ?_
  refine ⟨F, ds, M, _, _, (hs.ex kx), ht, fun v H1 d M1 st mm rp q => ?_⟩
  cases d with
  | lst xs =>
    obtain ⟨hl, q⟩ := q
    cases rp with
    | lst hx r => exact ⟨_, _, rfl, hx.sq, by rw [r.len]; exact hl, names_ok r hl (hs.to st mm).sl fun σ' h' _ => ⟨_, M1, st, ⟨mm, h'⟩, q⟩⟩
  | _ => exact q.elim
end
end L2.Dl

namespace L2.Dl
open PySem PySem.Spec PyProof.Rows
/-! ### a lambda of one parameter, called where it was made -/
def ownC (p : Str) (b : Bool) (L : Nat) (cl : List (Str × Addr)) : List (Str × Addr) := if b = true then (p, L + 1) :: cl else cl
/-- its names: the parameter first, then captured ones and globals -/
def lam1B (N : List Str) (sc scope : Scope) (p : Str) (b : Bool) (ex : List Str) : Bool :=
  decide (scope.kind = .function) && !scope.isCoroutine && !scope.isGenerator && decide ((N ++ p :: ex).Nodup) && match scope.names with
    | (q, k) :: rest => decide (q = p) && decide (k = if b = true then .cell else .local) && rest.all fun y => !decide (y.2 = .local) && !decide (y.2 = .cell) && !decide (y.1 = p) && (!decide (y.2 = .free) || decide (sc.names.lookup y.1 = some .cell) || decide (sc.names.lookup y.1 = some .free))
    | [] => false
structure LamS1 (N : List Str) (sc scope : Scope) (p : Str) (b : Bool) (ex : List Str) : Prop where
  kind : scope.kind = .function
  co : scope.isCoroutine = false
  gen : scope.isGenerator = false
  nd : (N ++ p :: ex).Nodup
  names : ∃ rest, scope.names = (p, if b = true then .cell else .local) :: rest ∧ ∀ y ∈ rest, y.2 ≠ .local ∧ y.2 ≠ .cell ∧ y.1 ≠ p ∧ (y.2 = .free → sc.names.lookup y.1 = some .cell ∨ sc.names.lookup y.1 = some .free)
theorem lam1_by {N : List Str} {sc scope : Scope} {p : Str} {b : Bool} {ex : List Str} (h : lam1B N sc scope p b ex = true) : LamS1 N sc scope p b ex := by
  unfold lam1B at h
  simp only [Bool.and_eq_true, Bool.not_eq_true', decide_eq_true_eq] at h
  obtain ⟨⟨⟨⟨h1, h2⟩, h3⟩, h4⟩, h5⟩ := h
  split at h5
  · rename_i q k rest e
    simp only [Bool.and_eq_true, Bool.or_eq_true, Bool.not_eq_true', decide_eq_true_eq, decide_eq_false_iff_not, List.all_eq_true] at h5
    obtain ⟨⟨rfl, rfl⟩, h7⟩ := h5
    refine ⟨h1, h2, h3, h4, rest, e, fun y hy => ?_⟩
    obtain ⟨⟨⟨a1, a2⟩, a3⟩, a4⟩ := h7 y hy
    refine ⟨a1, a2, a3, fun z => ?_⟩
    rcases a4 with (a4 | a4) | a4
    · exact absurd z a4
    · exact .inl a4
    · exact .inr a4
  · cases h5
theorem cells_none : ∀ (l : List (Str × NameKind)) (n : Nat) (acc : List (Str × Addr)), (∀ y ∈ l, y.2 ≠ .cell) → cellsFrom n l acc = acc
  | [], _, _, _ => rfl
  | (x, k) :: r, n, acc, h => by
    have hk : (k == NameKind.cell) = false := by simpa using h (x, k) List.mem_cons_self
    unfold cellsFrom
    rw [if_neg (by rw [hk]; decide)]
    exact cells_none r n acc fun y hy => h y (List.mem_cons_of_mem _ hy)
theorem push_none : ∀ (l : List (Str × NameKind)) (h : Heap), (∀ y ∈ l, y.2 ≠ .cell) → pushCells h l = h
  | [], _, _ => rfl
  | (x, k) :: r, hp, h => by
    have hk : (k == NameKind.cell) = false := by simpa using h (x, k) List.mem_cons_self
    unfold pushCells
    rw [if_neg (by rw [hk]; decide)]
    exact push_none r hp fun y hy => h y (List.mem_cons_of_mem _ hy)
section
variable {M : Model} {A : Around} {E : Value → Shared → Prop} {s : Shared}
theorem newEnv1 {N ex : List Str} {sc scope : Scope} {globals : Addr} {cl : List (Str × Addr)} {p : Str} {b : Bool} {u : Value} {qual : Str} {func : Option Addr} {code : Value} {builtins : Addr} {Q : Env → Shared → Prop} (L : LamS1 N sc scope p b ex)
    (h : ∀ h2 tk m, (∀ c o, s.heap.get? c = some o → h2.get? c = some o) → h2.Ns s.heap.objs.size m → (b = false → m p = some u) → (b = true → h2.IsCell (s.heap.objs.size + 1) (some u)) →
      Q (newEnv scope s.heap.objs.size globals (ownC p b s.heap.objs.size cl) qual func code none builtins) { s with heap := h2, toks := tk }) :
    wpAny M A (newFunctionEnv scope globals cl [(p, u)] qual func code none builtins) Q E s := by
  obtain ⟨rest, en, hr⟩ := L.names
  cases b with
  | false =>
    have hkp : scope.names.lookup p = some .local := by rw [en]; simp
    refine wpAny_newFunctionEnv (fun y hy => ?_) (fun y hy => ?_) (fun h2 hn hsb => ?_) L.kind
    · rw [en] at hy
      rcases List.mem_cons.mp hy with z | z
      · rw [z]; exact fun q => by cases q
      · exact (hr y z).2.1
    · simp at hy
      subst hy
      exact hkp
    · refine h h2 _ _ (fun c o e => hsb.extBut c o (Nat.ne_of_lt (Heap.lt_size e)) (Heap.get?_push_of_some _ e)) hn (fun _ => by simp) fun z => by cases z
  | true =>
    have hkp : scope.names.lookup p = some .cell := by rw [en]; simp
    have hr2 : ∀ y ∈ rest, y.2 ≠ NameKind.cell := fun y hy => (hr y hy).2.1
    simp only [newFunctionEnv, Option.isSome_none, Bool.false_eq_true, if_false]
    refine wpAny_bind (wpAny_alloc ?_)
    refine wpAny_bind (wpAny_layCells _ (fun name kind cells => by cases hkc : kind == NameKind.cell <;> simp [hkc]) _ _ _ _ ?_)
    have e1 : cellsFrom ({ s with heap := s.heap.push { cls := .type "frame", data := .dict #[] } } : Shared).heap.objs.size scope.names cl = (p, s.heap.objs.size + 1) :: cl := by
      rw [en]
      unfold cellsFrom
      rw [if_pos (by decide), cells_none _ _ _ hr2]
      rw [show ({ s with heap := s.heap.push { cls := .type "frame", data := .dict #[] } } : Shared).heap.objs.size = s.heap.objs.size + 1 from Heap.size_push ..]
    have e2 : pushCells (s.heap.push { cls := .type "frame", data := .dict #[] }) scope.names = (s.heap.push { cls := .type "frame", data := .dict #[] }).push { cls := .type "cell", data := .cell none } := by
      rw [en]
      unfold pushCells
      rw [if_pos (by decide), push_none _ _ hr2]
    rw [e1]
    show wpAny M A _ Q E { s with heap := pushCells (s.heap.push { cls := .type "frame", data := .dict #[] }) scope.names }
    rw [e2]
    have hsz : (s.heap.push { cls := .type "frame", data := .dict #[] }).objs.size = s.heap.objs.size + 1 := Heap.size_push ..
    have hce : ((s.heap.push { cls := .type "frame", data := .dict #[] }).push { cls := .type "cell", data := .cell none }).IsCell (s.heap.objs.size + 1) none := ⟨_, by rw [← hsz]; exact Heap.get?_push_size _ rfl, rfl⟩
    have hns : ((s.heap.push { cls := .type "frame", data := .dict #[] }).push { cls := .type "cell", data := .cell none }).Ns s.heap.objs.size (fun _ => none) := (Heap.Ns.new s.heap (.type "frame")).keeps fun c o e => Heap.get?_push_of_some _ e
    rw [List.forIn_cons]
    refine wpAny_bind (wpAny_bind (wpAny_bind (wpAny_storeName_cell (c := s.heap.objs.size + 1) L.kind hkp (by simp) hce fun h2 hc2 hsb => wpAny_pure ?_)))
    dsimp only
    rw [List.forIn_nil]
    refine wpAny_pure (wpAny_pure (h h2 _ _ (fun c o e => hsb.extBut c o (Nat.ne_of_lt (Nat.lt_succ_of_lt (Heap.lt_size e))) (Heap.get?_push_of_some _ (Heap.get?_push_of_some _ e))) (hns.sameBut hsb (Nat.ne_of_lt (Nat.lt_succ_self _))) (fun z => by cases z) fun _ => hc2))
end
abbrev lamEnv1 (X : Cx) (scope : Scope) (L f c' : Addr) (p : Str) (b : Bool) : Env := PySem.W.envX (X.env.qual ++ "<lambda>") scope L f (.ref c') (ownC p b L (cloFrom X.env.cells scope.names []))
/-- the context of the body -/
def lamCx1 (X : Cx) (A : Around) (s : Shared) (H : Hp) (scope : Scope) (f c' : Addr) (p : Str) (b : Bool) (ex : List Str) : Cx where
  prog := X.prog
  w := X.w
  K := X.K
  mg := X.mg
  base := X.base
  A := A.deeper (lamEnv1 X scope s.heap.objs.size f c' p b)
  N := X.N ++ p :: ex
  s_0 := s
  H_0 := H
  env := lamEnv1 X scope s.heap.objs.size f c' p b
  outer := X.stack
  stack := lamEnv1 X scope s.heap.objs.size f c' p b :: X.stack
  ex := []
  fn := fun _ => false
  calm := true
  pn := []
  xe := fun e s' => wpAny (model X.prog X.w) (A.deeper (lamEnv1 X scope s.heap.objs.size f c' p b)) (leaving (lamEnv1 X scope s.heap.objs.size f c' p b) e) (fun _ s'' => L2.CX X.prog X.w X.stack H s (fun _ _ _ => False) e s'') (fun e' s'' => L2.CX X.prog X.w X.stack H s (fun _ _ _ => False) e' s'') s'
section
variable {X : Cx} {pins : List (Addr × Obj)} {σ : L2.St} {H : Hp} {s : Shared}
theorem lam1_start {A : Around} {scope : Scope} {f c' : Addr} {p : Str} {b : Bool} {ex : List Str} {h2 : Heap} {tk : Nat} {m : Str → Option Value} {v : V} {u : Value} (I : Inv X pins σ H s) (L : LamS1 X.N X.env.scope scope p b ex) (hfr : A.frames = some X.stack) (hd : A.handled = none)
    (kp : ∀ c o, s.heap.get? c = some o → h2.get? c = some o) (hns : h2.Ns s.heap.objs.size m) (hv : RelV v u) (hm : b = false → m p = some u) (hc : b = true → h2.IsCell (s.heap.objs.size + 1) (some u)) :
    Inv (lamCx1 X A s H scope f c' p b ex) [] (σ ++ some v :: List.replicate ex.length none) H { s with heap := h2, toks := tk } := by
  obtain ⟨rest, en, hr⟩ := L.names
  have e0 := I.env0
  have hfree : ∀ y ∈ scope.names, y.2 = .free → y.1 ≠ p ∧ (X.env.scope.names.lookup y.1 = some .cell ∨ X.env.scope.names.lookup y.1 = some .free) := fun y hy e => by
    rw [en] at hy
    rcases List.mem_cons.mp hy with z | z
    · rw [z] at e
      cases b <;> cases e
    · exact ⟨(hr y z).2.2.1, (hr y z).2.2.2 e⟩
  have has : ∀ y ∈ scope.names, y.2 = .free → ∃ c, X.env.cells.lookup y.1 = some c := fun y hy e => by
    rcases (hfree y hy e).2 with k | k
    · exact I.ok.has _ (.inl k)
    · exact I.ok.has _ (.inr k)
  have cm : ∀ {y c}, (cloFrom X.env.cells scope.names []).lookup y = some c → (y, NameKind.free) ∈ scope.names ∧ X.env.cells.lookup y = some c := fun {y c} e => by
    rcases cloFrom_mem (PySem.mem_of_lookup e) with q | ⟨q1, q2⟩
    · cases q
    · refine ⟨q1, ?_⟩
      obtain ⟨c1, q3⟩ := has _ q1 rfl
      have q3 : X.env.cells.lookup y = some c1 := q3
      have e2 : c = c1 := by
        rw [q2, q3] <;> rfl
      rw [e2]
      exact q3
  have look : ∀ {y}, (y, NameKind.free) ∈ scope.names → ∃ c, (cloFrom X.env.cells scope.names []).lookup y = some c := fun {y} hy => mem_lookup (cloFrom_has (cells := X.env.cells) (acc := []) hy)
  have clt : ∀ {y c}, X.env.cells.lookup y = some c → c < s.heap.objs.size := fun {y c} e => by
    obtain ⟨w', o, ho, _⟩ := I.cell y c e
    exact Heap.lt_size ho
  -- a cell of the new frame: the own one, or a captured one
  have own : ∀ {y c}, (ownC p b s.heap.objs.size (cloFrom X.env.cells scope.names [])).lookup y = some c → (b = true ∧ y = p ∧ c = s.heap.objs.size + 1) ∨ ((y, NameKind.free) ∈ scope.names ∧ X.env.cells.lookup y = some c) := fun {y c} e => by
    unfold ownC at e
    split at e
    · rename_i hb
      rw [List.lookup_cons] at e
      cases q : y == p with
      | true =>
        rw [q] at e
        cases e
        exact .inl ⟨hb, by simpa using q, rfl⟩
      | false =>
        rw [q] at e
        exact .inr (cm e)
    · exact .inr (cm e)
  have ofFree : ∀ {y}, (y, NameKind.free) ∈ scope.names → ∃ c, (ownC p b s.heap.objs.size (cloFrom X.env.cells scope.names [])).lookup y = some c := fun {y} hy => by
    obtain ⟨c, hc⟩ := look hy
    have hyp : (y == p) = false := by simpa using (hfree _ hy rfl).1
    unfold ownC
    split
    · rw [List.lookup_cons, hyp]
      exact ⟨c, hc⟩
    · exact ⟨c, hc⟩
  have cellK : ∀ {y : Str} {c : Addr} {w' : Option Value}, s.heap.IsCell c w' → h2.IsCell c w' := fun {y c w'} ⟨o, ho, hd⟩ => ⟨_, kp _ _ ho, hd⟩
  have noA : ∀ c : Addr, c ∉ (lamCx1 X A s H scope f c' p b ex).ex := fun c z => absurd (show c ∈ ([] : List Addr) from z) (by simp)
  refine ⟨⟨e0.mod, L.kind, rfl, rfl, Nat.le_refl _, fun y z c e1 e2 => ?_, fun y hy => ?_, fun y c z _ => ?_, fun _ => hd, Around.frames_deeper hfr, .inr ⟨rfl, rfl⟩, fun c z => absurd z (noA c), e0.bs, e0.bsz, fun c _ _ => noA c,
      fun c z => absurd z (noA c), e0.funs, e0.frf⟩,
    rfl, e0.bare, Un.kept kp, ⟨_, hns, fun i y v' e1 e2 e3 => ?_⟩, fun y c e => ?_, e0.hok.fresh (Nat.le_refl _), fun y c e => ?_, fun q hq => absurd (show q ∈ ([] : List (Addr × Obj)) ++ [] from hq) (by simp), e0.hok.kept kp, ?_⟩
  · rcases own e1 with ⟨_, a2, a3⟩ | ⟨a1, a2⟩ <;> rcases own e2 with ⟨_, b2, b3⟩ | ⟨b1, b2⟩
    · rw [a2, b2]
    · exact absurd (a3 ▸ clt b2) (Nat.not_lt_of_le (Nat.le_succ _))
    · exact absurd (b3 ▸ clt a2) (Nat.not_lt_of_le (Nat.le_succ _))
    · exact I.ok.inj y z c a2 b2
  · have hy : scope.names.lookup y = some .cell ∨ scope.names.lookup y = some .free := hy
    rcases hy with hy | hy
    · have hm := PySem.mem_of_lookup hy
      rw [en] at hm
      rcases List.mem_cons.mp hm with z | z
      · injection z with z1 z2
        refine ⟨s.heap.objs.size + 1, ?_⟩
        show (ownC p b s.heap.objs.size _).lookup y = _
        cases b with
        | false => cases z2
        | true => unfold ownC; rw [if_pos rfl, z1, List.lookup_cons, beq_self_eq_true]
      · exact absurd rfl (hr _ z).2.1
    · exact ofFree (PySem.mem_of_lookup hy)
  · have z : false = true := z
    cases z
  · have e1 : (X.N ++ p :: ex)[i]? = some y := e1
    have e3 : Vis scope y := e3
    have hl := I.len
    by_cases hi : i < X.N.length
    · rw [List.getElem?_append_left hi] at e1
      rw [List.getElem?_append_left (by omega)] at e2
      have hyN : y ∈ X.N := List.mem_of_getElem? e1
      have hyp : y ≠ p := fun z => by
        have nd := List.nodup_append.mp L.nd
        exact nd.2.2 y hyN p List.mem_cons_self z
      have hyf : (y, NameKind.free) ∈ scope.names := by
        have base : ∀ k, scope.names.lookup y = some k → k = .free ∨ k ≠ .local ∧ k ≠ .cell := fun k hk => by
          have hm := PySem.mem_of_lookup hk
          rw [en] at hm
          rcases List.mem_cons.mp hm with z | z
          · injection z with z1 z2
            exact absurd z1 hyp
          · exact .inr ⟨(hr _ z).1, (hr _ z).2.1⟩
        rcases e3 with k | k | k
        · rcases base _ k with z | z
          · cases z
          · exact absurd rfl z.1
        · rcases base _ k with z | z
          · cases z
          · exact absurd rfl z.2
        · exact PySem.mem_of_lookup k
      obtain ⟨m', hn', hl'⟩ := I.loc
      have hvis : Vis X.env.scope y := (hfree _ hyf rfl).2.elim (fun k => .inr (.inl k)) (fun k => .inr (.inr k))
      obtain ⟨w', r, q⟩ := hl' i y v' e1 e2 hvis
      obtain ⟨c2, q2⟩ := ofFree hyf
      have hk : scope.names.lookup y = some .free := by
        rcases e3 with k | k | k
        · have hm := PySem.mem_of_lookup k
          rw [en] at hm
          rcases List.mem_cons.mp hm with z | z
          · injection z with z1 z2
            exact absurd z1 hyp
          · exact absurd rfl (hr _ z).1
        · have hm := PySem.mem_of_lookup k
          rw [en] at hm
          rcases List.mem_cons.mp hm with z | z
          · injection z with z1 z2
            exact absurd z1 hyp
          · exact absurd rfl (hr _ z).2.1
        · exact k
      refine ⟨w', r, .inr ⟨.inr hk, c2, q2, ?_⟩⟩
      rcases own q2 with ⟨_, a2, _⟩ | ⟨_, a2⟩
      · exact absurd a2 hyp
      · rcases q with ⟨k', _⟩ | ⟨_, c3, e', z⟩
        · have k' : X.env.scope.names.lookup y = some .local := k'
          rcases (hfree _ hyf rfl).2 with k2 | k2 <;> rw [show X.env.scope.names.lookup y = _ from k2] at k' <;> cases k'
        · rw [a2] at e'
          cases e'
          exact cellK (y := y) z
    · rw [List.getElem?_append_right (by omega)] at e1 e2
      rw [hl] at e2
      cases hj : i - X.N.length with
      | zero =>
        rw [hj] at e1 e2
        simp at e1 e2
        subst e1 e2
        refine ⟨u, hv, ?_⟩
        cases b with
        | false => exact .inl ⟨by show scope.names.lookup p = _; rw [en]; simp, hm rfl⟩
        | true => exact .inr ⟨.inl (by show scope.names.lookup p = _; rw [en]; simp), s.heap.objs.size + 1, by show (ownC p true s.heap.objs.size _).lookup p = _; unfold ownC; rw [if_pos rfl, List.lookup_cons, beq_self_eq_true], hc rfl⟩
      | succ j =>
        rw [hj] at e2
        rw [List.getElem?_cons_succ, List.getElem?_replicate] at e2
        split at e2 <;> cases e2
  · rcases own e with ⟨a1, _, a3⟩ | ⟨_, a2⟩
    · rw [a3]
      exact ⟨_, hc a1⟩
    · obtain ⟨w', z⟩ := I.cell y c a2
      exact ⟨w', cellK (y := y) z⟩
  · rcases own e with ⟨_, _, a3⟩ | ⟨_, a2⟩
    · exact e0.hok.fresh (by rw [a3]; exact Nat.le_succ _)
    · exact I.freeC y c a2
  · show _ = (X.N ++ p :: ex).length
    have := I.len
    simp
    omega
end
end L2.Dl

namespace L2.Dl
open PySem PySem.Spec PyProof.Rows
section
variable {X : Cx} {pins : List (Addr × Obj)} {σ : L2.St} {H : Hp} {s : Shared}
/-- such a lambda is called -/
theorem lam1_run {params : Arguments} {body : Expr} {scope : Scope} {p : Str} {b : Bool} {ex : List Str} {kk : Nat} {t : TD} {F : List Addr} {M : MM} {ds : SD} {A : Around} {f : Addr} {o : Unit → Obj} {Q : QD} {v : V} {u : Value} {d : D}
    (I : Inv X pins σ H s) (mm : RMM X.K F H M) (sl : RSl X.K (ak F M) H σ ds) (L : LamS1 X.N X.env.scope scope p b ex) (hde : params.defaults.isEmpty = true)
    (hbd : ∀ (q : Str) (cl : List (Str × Addr)) (doc pm cv ct u : Value), bindArgs (PySem.W.kdv_fn "<lambda>" q params (.expr body) scope cl .none doc pm cv ct) ⟨[u], []⟩ = pure [(p, u)]) (hR : lamR X params body scope o)
    (hb : ∀ (A : Around) (s : Shared) (H : Hp) (f c' : Addr), Room kk (A.deeper (lamEnv1 X scope s.heap.objs.size f c' p b)) → PD (lamCx1 X A s H scope f c' p b ex) body t)
    (hr : Room (kk + 1) A) (hfr : A.frames = some X.stack) (rf : Rep X.K (ak F M) H (.ref f) (.act o [] [])) (rv : RelV v u) (rd : Rep X.K (ak F M) H v d) (ht : t (ds ++ some d :: List.replicate ex.length none) M X0 Q) :
    wpAny (model X.prog X.w) A (call (.ref f) [u]) (fun u' s' => ∃ v' H' d' M', s'.os = s.os ∧ AllBare s'.gens ∧ Un (frs X.stack) [] H H' s.heap s'.heap ∧ HOk X.prog X.w H' s'.heap ∧ RelV v' u' ∧ Stp H (keys M) H' (keys M') ∧ RMM X.K F H' M' ∧ Rep X.K (ak F M') H' v' d' ∧ Q d' M') (fun _ _ => False) s := by
  obtain ⟨dV, doc, pm, c', ct, eo, hd0, hd1⟩ := hR
  cases hd0 hde
  cases rf with
  | act hl hrs =>
    obtain ⟨n1, e1, fd, c, e2, e3, n2, e4, e5⟩ := hl
    have of1 : s.heap.get? f = some (o ()) := (I.hok f _ e1).1
    rw [eo] at of1 e2
    cases e2
    cases e3
    obtain ⟨⟨oc, vs, t0, hoc, hdc, hvc⟩, _, _⟩ := I.hok c' _ e4
    refine wpAny_call (codeAny_mono (R := fun r s' => match r with | .ok (.ret u') => (∃ v' H' d' M', s'.os = s.os ∧ AllBare s'.gens ∧ Un (frs X.stack) [] H H' s.heap s'.heap ∧ HOk X.prog X.w H' s'.heap ∧ RelV v' u' ∧ Stp H (keys M) H' (keys M') ∧ RMM X.K F H' M' ∧ Rep X.K (ak F M') H' v' d' ∧ Q d' M') | .ok _ => False | .error e => L2.CX X.prog X.w X.stack H s (fun _ _ _ => False) e s') ?_ fun r s' hq => ?_)
    rotate_left
    · cases r with
      | error e =>
        obtain ⟨_, _, _, _, _, _, _, _, _, _, _, _, z⟩ := hq
        exact z
      | ok fl =>
        cases fl with
        | ret u' => exact hq
        | next => exact hq
        | brk => exact hq
        | cont => exact hq
    refine PySem.W.kla_callFunE hr.depth of1 rfl L.co L.gen rfl ⟨c', oc, vs, t0, rfl, hoc, hdc, hvc⟩ ?_
    rw [hbd]
    refine wpAny_pure (newEnv1 L fun h2 tk m kp hns h3 h4 => ⟨I.nolimit.keeps kp, ?_⟩)
    show codeAny _ _ (.expr body (lamEnv1 X scope s.heap.objs.size f c' p b)) _ _
    have J := lam1_start (f := f) (c' := c') (A := A) (tk := tk) I L hfr hr.hd kp hns rv h3 h4
    have tk' : Takes (lamCx1 X A s H scope f c' p b ex) (fun _ _ _ _ => False) := takes_of rfl rfl rfl rfl
    have sl2 : RSl X.K (ak F M) H (σ ++ some v :: List.replicate ex.length none) (ds ++ some d :: List.replicate ex.length none) := by
      refine ⟨by simp [sl.len], fun i d' e => ?_⟩
      by_cases hi : i < ds.length
      · rw [List.getElem?_append_left hi] at e
        rw [List.getElem?_append_left (by rw [sl.len]; exact hi)]
        exact sl.at_ i d' e
      · have hle : ds.length ≤ i := by omega
        rw [List.getElem?_append_right hle] at e
        rw [List.getElem?_append_right (by rw [sl.len]; exact hle), sl.len]
        cases hj : i - ds.length with
        | zero =>
          rw [hj] at e
          simp at e
          subst e
          exact ⟨v, rfl, rd⟩
        | succ j =>
          rw [hj] at e
          rw [List.getElem?_cons_succ, List.getElem?_replicate] at e
          split at e <;> cases e
    refine PySem.W.kla_codeExpr (wpAny_mono ((hb A s H f c' (hr.deeper _)).run _ tk' F [] _ _ H _ M X0 Q J ⟨mm, sl2, kw0⟩ ht) (fun w2 s' hq => ?_) fun e s' hq => hq)
    obtain ⟨v', H', d', M', J', rv', st, m2, rp2, q⟩ := hq
    exact ⟨v', H', d', M', J'.os, J'.bare, J'.base, J'.hok, rv', st, m2, rp2, q⟩
end
end L2.Dl

namespace L2.Dl
open PySem PySem.Spec PyProof.Rows PySem.W
/-! ### sorted by a key that is a lambda -/
/-- an address that is new to a frame and not told -/
structure Loose (X : Cx) (pins : List (Addr × Obj)) (a : Addr) : Prop where
  lo : X.s_0.heap.objs.size ≤ a
  loc : a ≠ X.env.locals
  cel : ∀ x c, X.env.cells.lookup x = some c → c ≠ a
  pin : ∀ p ∈ X.pn ++ pins, p.1 ≠ a
  stk : a ∉ frs X.stack
section
variable {X : Cx} {pins : List (Addr × Obj)} {σ : L2.St} {H : Hp} {s : Shared}
theorem loose_of (I : Inv X pins σ H s) {a : Addr} (h : s.heap.objs.size ≤ a) : Loose X pins a := by
  have lt : ∀ {b o}, s.heap.get? b = some o → b ≠ a := fun {b o} e z => absurd (Nat.lt_of_lt_of_le (Heap.lt_size e) h) (by rw [z]; exact Nat.lt_irrefl _)
  have hl : a ≠ X.env.locals := fun z => absurd (Nat.lt_of_lt_of_le I.lt h) (by rw [z]; exact Nat.lt_irrefl _)
  refine ⟨Nat.le_trans I.sz h, hl, fun x c e => ?_, fun p hp => lt (I.pin p hp).1, fun z => ?_⟩
  · obtain ⟨v, o, ho, _⟩ := I.cell x c e
    exact lt ho
  · rcases List.mem_cons.mp (I.stkSub a z) with q | q
    · exact hl q
    · exact I.nofs h q
theorem Loose.turned {a : Addr} (l : Loose X pins a) (I : Inv X pins σ H s) {h' : Heap} {tk : Nat} (n : H a = none) (k : ∀ b o, b ≠ a → s.heap.get? b = some o → h'.get? b = some o) : Inv X pins σ H { s with heap := h', toks := tk } :=
  I.turned k n l.loc (.inr l.lo) l.cel l.pin
/-- the sorted list is told, the list of keys has changed -/
theorem inv_sorted {a kS : Addr} {vs : List V} {its : List Value} {h' : Heap} {tk c : Nat} (I : Inv X pins σ H s) (la : Loose X pins a) (lk : Loose X pins kS) (na : H a = none) (nk : H kS = none) (hka : kS ≠ a)
    (k : ∀ b o, b ≠ a → b ≠ kS → s.heap.get? b = some o → h'.get? b = some o) (ha : h'.get? a = some (seqObj "list" its.toArray c)) (r : Vals vs its) (hz : vs.length ≤ sizeLine) : Inv X pins σ (upd H a (.lst vs)) { s with heap := h', toks := tk } := by
  have nt : ∀ b u, H b = some u → b ≠ a ∧ b ≠ kS := fun b u e => ⟨fun z => (by rw [z, na] at e; cases e), fun z => (by rw [z, nk] at e; cases e)⟩
  have atN : ∀ b, b ≠ a → upd H a (.lst vs) b = H b := fun b hb => upd_ne hb
  refine I.step (g' := s.gens) (d' := s.drawn) (ch := [a, kS]) (fun b hb => ?_) (fun b o _ _ hc e _ => ?_) (fun b o _ _ hc e _ => ⟨o.slots, ?_⟩) (fun b o hc e n => ?_) (fun b o hc e => ⟨o, ?_⟩) (fun b xs e => ?_) (fun b o u e => ?_) (fun b ps e => ⟨#[], ?_⟩) (fun m hn => ?_) (fun b u e => ?_) I.bare
  · simp at hb
    rcases hb with rfl | rfl
    · exact ⟨.inr la.lo, la.loc, la.cel, la.pin⟩
    · exact ⟨.inr lk.lo, lk.loc, lk.cel, lk.pin⟩
  · simp at hc
    exact k b o hc.1 hc.2 e
  · simp at hc
    exact k b o hc.1 hc.2 e
  · simp at hc
    rw [atN b hc.1]
    exact n
  · simp at hc
    exact k b o hc.1 hc.2 e
  · rw [atN b (nt b _ e).1]
    exact e
  · rw [atN b (nt b _ e).1]
    exact e
  · rw [atN b (nt b _ e).1, e]
    simp
  · obtain ⟨ob, es, ep, ho, q⟩ := hn
    exact ⟨ob, es, ep, k _ ob (fun z => la.loc z.symm) (fun z => lk.loc z.symm) ho, q⟩
  · by_cases hb : b = a
    · subst hb
      rw [upd_same] at e
      cases e
      exact ⟨hz, its, c, r, ha⟩
    · rw [atN b hb] at e
      refine (I.hok b u e).stay (fun d v hd q => ?_) (fun d q => by rw [atN d (nt d _ q).1]; exact q) fun d xs q => by rw [atN d (nt d _ q).1]; exact q
      rcases hd with rfl | hd
      · exact k d v (nt d _ e).1 (nt d _ e).2 q
      · exact k d v (nt d _ hd).1 (nt d _ hd).2 q
/-- what a turn says of the key -/
def KeyAt (X : Cx) (F : List Addr) (M : MM) (H : Hp) (u : Value) (k : PyData) : Prop := ∃ v d, RelV v u ∧ Rep X.K (ak F M) H v d ∧ toPy d = some k
/-- the calls of the key, then the sort -/
theorem keyD_rest {F : List Addr} {M : MM} {A : Around} {E : Value → Shared → Prop} {a kS : Addr} {e1 : Nat} {f : Value} {us : List Value} {kz : List PyData} {P : PySem.Fin → Shared → Prop} (I : Inv X pins σ H s) (mm : RMM X.K F H M) (la : Loose X pins a) (lk : Loose X pins kS) (na : H a = none) (nk : H kS = none) (hka : kS ≠ a)
    (oa : s.heap.get? a = some (seqObj "list" #[] e1)) (ok : s.heap.get? kS = some (seqObj "list" #[] 0)) (hlen : kz.length = us.length) (hz : us.length ≤ sizeLine) (hal : AllAlike kz) (hsk : Sortable kz) (hu : ∀ d, d ∈ kz → A.units + d.depth < cLine)
    (turn : ∀ (i : Nat) (u : Value) (k : PyData), us[i]? = some u → kz[i]? = some k → ∀ (H1 : Hp) (s1 : Shared), Inv X pins σ H1 s1 → Stp H (keys M) H1 (keys M) → RMM X.K F H1 M →
      wpAny (model X.prog X.w) A (call f [u]) (CE X.stack X.prog X.w H1 s1 (fun v' H' => Stp H1 (keys M) H' (keys M) ∧ RMM X.K F H' M ∧ ∃ d', Rep X.K (ak F M) H' v' d' ∧ toPy d' = some k)) (fun _ _ => False) s1)
    (fin : ∀ (H2 : Hp) (s2 : Shared) (h' : Heap) (tk c : Nat) (out : List Value), Inv X pins σ H2 s2 → Stp H (keys M) H2 (keys M) → RMM X.K F H2 M → H2 a = none → H2 kS = none → (∀ b o, b ≠ a → b ≠ kS → s2.heap.get? b = some o → h'.get? b = some o) → h'.get? a = some (seqObj "list" out.toArray c) → KeyedOut false kz us out →
      P (.done (.ret .none)) { s2 with heap := h', toks := tk }) :
    wpAny (model X.prog X.w) A (ksk_rest a f false us.toArray e1 (.ref kS)) P E s := by
  unfold ksk_rest
  refine wpAny_bind (wpAny_rule ?_)
  first
    | rw [List.forIn_toArray]
    | (rw [← Array.forIn_toList]; simp only [List.toList_toArray])
    | rw [← Array.forIn_toList]
  refine wpAny_bind (ksk_fold (fun i s' => ∃ H1 kA ep, Inv X pins σ H1 s' ∧ Stp H (keys M) H1 (keys M) ∧ RMM X.K F H1 M ∧ H1 a = none ∧ H1 kS = none ∧ s'.heap.get? kS = some (seqObj "list" kA ep) ∧ s'.heap.get? a = some (seqObj "list" #[] e1) ∧ EachIs (KeyAt X F M H1) kA.toList (kz.take i)) us 0 s
    ⟨H, #[], 0, I, .refl _ _, mm, na, nk, ok, oa, by rw [List.take_zero]; exact EachIs.nil⟩ ?step ?done)
  case step =>
    rintro j x s' hx ⟨H1, kA, ep, I1, st, m1, na1, nk1, ok1, oa1, hk⟩
    simp only [Nat.zero_add] at hk ⊢
    have hj : j < us.length := (List.getElem?_eq_some_iff.mp hx).1
    obtain ⟨k, hkj⟩ : ∃ k, kz[j]? = some k := ⟨_, List.getElem?_eq_getElem (by omega)⟩
    have hkl : kA.size ≤ us.length := by
      have h1 := hk.length
      rw [Array.length_toList, List.length_take] at h1
      omega
    refine wpAny_bind (wpAny_attempt (wpAny_mono (turn j x k hx hkj H1 s' I1 st m1) (fun v s2 he => ?_) fun _ _ hF => hF.elim))
    have I2' := I1.after he
    obtain ⟨v2, H2, g1, g2, un, g4, g5, st2, m2, d2, rp2, tp2⟩ := he
    have I2 : Inv X pins σ H2 s2 := by
      exact I1.call' g1 un g4 g2 (fun b hb => absurd hb (by simp))
    have ok2 : s2.heap.get? kS = some (seqObj "list" kA ep) := un.keep _ _ ok1 nk1 lk.stk (by simp)
    have oa2 : s2.heap.get? a = some (seqObj "list" #[] e1) := un.keep _ _ oa1 na1 la.stk (by simp)
    have na2 : H2 a = none := un.free _ _ oa1 na1 (by simp)
    have nk2 : H2 kS = none := un.free _ _ ok1 nk1 (by simp)
    try dsimp only
    have sb := Heap.SameBut.update s2.heap kS (Obj.mapSeq (·.push v))
    obtain ⟨c2, hc2⟩ : ∃ c2, (s2.heap.update kS (Obj.mapSeq (·.push v))).get? kS = some (seqObj "list" (kA.push v) c2) := ⟨_, get?_update_seq ok2 (·.push v)⟩
    refine wpAny_bind (listUpdate_at ok2 rfl ?_ (Nat.le_trans hkl hz) (Nat.le_trans (Nat.le_of_eq (Array.size_push ..)) (Nat.succ_le_succ (Nat.le_trans hkl hz))))
    have I3 : Inv X pins σ H2 { s2 with heap := s2.heap.update kS (Obj.mapSeq (·.push v)) } := lk.turned (tk := s2.toks) I2 nk2 fun b o hb e => (sb.2 b hb).trans e
    refine wpAny_pure ⟨rfl, H2, kA.push v, c2, I3, st.trans st2, m2, na2, nk2, hc2, (sb.2 a hka.symm).trans oa2, ?_⟩
    have ea : (kA.push v).toList = kA.toList ++ [v] := by simp
    have ek : kz.take (j + 1) = kz.take j ++ [k] := by rw [List.take_add_one, hkj]; simp
    rw [ea, ek]
    refine each_snoc (R := KeyAt X F M H2) ⟨v2, d2, g5, rp2, tp2⟩ (hk.mono fun u' k' ⟨v', d', q1, q2, q3⟩ => ⟨v', d', q1, q2.step st2.fix, q3⟩)
  case done =>
    rintro s2 ⟨H2, kA, ep, I2, st, m2, na2, nk2, ok2, oa2, hk⟩
    have e3 : kz.take (0 + us.length) = kz := List.take_of_length_le (by omega)
    rw [e3] at hk
    have hk' : EachIs (fun v k => ∃ as, Reads s2.heap v k as) kA.toList kz := hk.mono fun u' k' ⟨v', d', q1, q2, q3⟩ => Dp.reads I2 k' v' u' (q2.dp q3) q1
    have hsz : kA.size = us.length := by
      have h1 := hk'.length
      rw [Array.length_toList] at h1
      omega
    try dsimp only
    refine wpAny_bind (listItems_at ok2 rfl ?_)
    refine keyH_end (κ := dataKind s2.heap kz) (h₁ := hideAll s2.heap [kS]) (fun b o _ q => of_hideAll _ q) (hideAll_none _ (by simp)) ok2 oa2 hka (SortsAt.data (s := s2) hk' hal hsk hu) hsz hz fun h3 tk3 c k3 n3 => ?_
    exact fin H2 s2 h3 tk3 c _ I2 st m2 na2 nk2 (fun b o hb hb2 q => k3 b o hb (hideAll_get _ q (by simpa using hb2))) n3 ⟨s2.heap, kA.toList, hal, rfl, hk'⟩
end
end L2.Dl

namespace L2.Dl
open PySem PySem.Spec PyProof.Rows PySem.W
theorem each_vals {β : Type} {K : PySem.W.Frag} {B : List Addr} {H : Hp} {g : β → D} : ∀ {us : List Value} {bs : List β}, EachIs (fun u b => ∃ v, RelV v u ∧ Rep K B H v (g b)) us bs → ∃ vs, Vals vs us ∧ RepA K B H vs (bs.map g)
  | _, _, .nil => ⟨[], .nil, .nil⟩
  | _, _, .cons ⟨v, h1, h2⟩ t => by
    obtain ⟨vs, q1, q2⟩ := each_vals t
    exact ⟨v :: vs, .cons h1 q1, .cons h2 q2⟩
theorem vals_each {β : Type} {K : PySem.W.Frag} {B : List Addr} {H : Hp} {g : β → D} : ∀ {vs : List V} {us : List Value} {bs : List β}, Vals vs us → RepA K B H vs (bs.map g) → EachIs (fun u b => ∃ v, RelV v u ∧ Rep K B H v (g b)) us bs
  | _, _, [], .nil, .nil => .nil
  | _, _, _ :: _, .nil, h => by cases h
  | _, _, [], .cons _ _, h => by cases h
  | _, _, _ :: _, .cons r rs, h => by
    cases h with
    | cons h t => exact .cons ⟨_, r, h⟩ (vals_each rs t)
/-- the items of a list, that stands still or may change -/
def lstOf (M : MM) : D → Option (List D)
  | .lst xs => some xs
  | .ref a => match M.lookup a with | some (.lst xs) => some xs | _ => none
  | _ => none
theorem lstOf_sq {K : PySem.W.Frag} {F : List Addr} {H : Hp} {M : MM} {v : V} {d : D} {xs : List D} (mm : RMM K F H M) (r : Rep K (ak F M) H v d) (h : lstOf M d = some xs) : ∃ a vs, v = .ref a ∧ SqL K H a vs ∧ RepA K (ak F M) H vs xs := by
  unfold lstOf at h
  split at h
  · cases h
    cases r with
    | lst h1 h2 => exact ⟨_, _, rfl, h1.sq, h2⟩
  · rename_i a
    split at h
    · rename_i xs' e
      cases h
      obtain ⟨vs, h1, h2⟩ := mm.get e
      cases r
      exact ⟨_, _, rfl, .inl (.inl h1), h2⟩
    · cases h
  · cases h
/-- sorted(e, key=lambda p: ..): the keys are k's -/
def dSortK (P : Addr) (q : Str) (ex : Nat) (te tb : TD) : TD := fun ds M Z Q => te ds M Z fun d M1 => M1.lookup P = some (.tab q) ∧ optK (lstOf M1 d) fun xs => ∃ (β : Type) (bs : List β) (g : β → D) (k : β → PyData), xs = bs.map g ∧
  (∀ x ∈ bs, ∀ Q' : QD, (∀ y, toPy y = some (k x) → Q' y M1) → tb (ds ++ some (g x) :: List.replicate ex none) M1 X0 Q') ∧ AllAlike (bs.map k) ∧ Sortable (bs.map k) ∧ (∀ x ∈ bs, (k x).depth ≤ 60) ∧ bs.length ≤ sizeLine ∧ Q (.lst ((bs.mergeSort (dataLe false k)).map g)) M1
@[simp ↓] theorem dSortK_eq (P : Addr) (q : Str) (ex : Nat) (te tb : TD) : ∀ ds M Z Q, dSortK P q ex te tb ds M Z Q = (te ds M Z fun d M1 => M1.lookup P = some (.tab q) ∧ optK (lstOf M1 d) fun xs => ∃ (β : Type) (bs : List β) (g : β → D) (k : β → PyData), xs = bs.map g ∧
  (∀ x ∈ bs, ∀ Q' : QD, (∀ y, toPy y = some (k x) → Q' y M1) → tb (ds ++ some (g x) :: List.replicate ex none) M1 X0 Q') ∧ AllAlike (bs.map k) ∧ Sortable (bs.map k) ∧ (∀ x ∈ bs, (k x).depth ≤ 60) ∧ bs.length ≤ sizeLine ∧ Q (.lst ((bs.mergeSort (dataLe false k)).map g)) M1) := fun _ _ _ _ => rfl
section
variable {X : Cx} {params : Arguments} {body : Expr} {scope : Scope} {p : Str} {b : Bool} {ex : List Str} {kk : Nat} {c P : Addr} {q : Str} {te tb : TD} {e : Expr} {pp lpos kpos pos : Pos}
theorem d_sortedK (TB : LamX.TabB X.base X.mg c P) (hcode : X.env.code = .ref c) (hq : q = X.env.qual ++ "<lambda>") (L : LamS1 X.N X.env.scope scope p b ex)
    (hb : ∀ (A : Around) (s : Shared) (H : Hp) (f c' : Addr), Room kk (A.deeper (lamEnv1 X scope s.heap.objs.size f c' p b)) → PD (lamCx1 X A s H scope f c' p b ex) body tb) (hr : Room (kk + 3) X.A) (hm : X.mg "sorted" = none) (he : PD X e te)
    (hbd : ∀ (q : Str) (cl : List (Str × Addr)) (doc pm cv ct u : Value), bindArgs (PySem.W.kdv_fn "<lambda>" q params (.expr body) scope cl .none doc pm cv ct) ⟨[u], []⟩ = pure [(p, u)] := by exact fun _ _ _ _ _ _ _ => rfl)
    (hdef : defaultsOf params X.env = ([], []) := by rfl) (hde : params.defaults.isEmpty = true := by rfl) (hg : Gl X "sorted" := by rfl) (hns : notStar e = true := by rfl) :
    PD X (.Call (.Name "sorted" pp) [e] [⟨some "key", .Lambda params body scope lpos, kpos⟩] pos) (dSortK P q ex.length te tb) := by
  refine ⟨fun W tk F pins s σ H ds M Z Q I hs ht => ?_⟩
  obtain ⟨rest, en, hrest⟩ := L.names
  have hfree : ∀ y ∈ scope.names, y.2 = .free → X.env.scope.names.lookup y.1 = some .cell ∨ X.env.scope.names.lookup y.1 = some .free := fun y hy hk => by
    rw [en] at hy
    rcases List.mem_cons.mp hy with z | z
    · rw [z] at hk
      cases b <;> cases hk
    · exact (hrest y z).2.2.2 hk
  have hlam : PD X (.Lambda params body scope lpos) (dLam ⟨P, q, fun _ o => lamR X params body scope o⟩ 0) := d_lam0 0 TB hcode hq (fun o h => h) hfree hdef hde
  have ha : PAD X [e] (dCons te dNil) := ad_cons he ad_nil hns
  have hk : PKD X [⟨some "key", .Lambda params body scope lpos, kpos⟩] (dCons (dLam ⟨P, q, fun _ o => lamR X params body scope o⟩ 0) dNil) := kd_cons hlam kd_nil
  refine wpAny_Call_Name_kw (ld_blt I hg hm bf_sorted ?_ (by decide) (by decide))
  have hkw : kwsOk [⟨some "key", .Lambda params body scope lpos, kpos⟩] ["key"] = true := rfl
  have hkl : (dCons te dNil) ds M Z (fun xs M1 => match xs with
    | [d] => M1.lookup P = some (.tab q) ∧ optK (lstOf M1 d) fun xs => ∃ (β : Type) (bs : List β) (g : β → D) (k : β → PyData), xs = bs.map g ∧ (∀ x ∈ bs, ∀ Q' : QD, (∀ y, toPy y = some (k x) → Q' y M1) → tb (ds ++ some (g x) :: List.replicate ex.length none) M1 X0 Q') ∧ AllAlike (bs.map k) ∧ Sortable (bs.map k) ∧ (∀ x ∈ bs, (k x).depth ≤ 60) ∧ bs.length ≤ sizeLine ∧ Q (.lst ((bs.mergeSort (dataLe false k)).map g)) M1
    | _ => False) := ht
  refine PyProof.Rows.callWith_kw (thn (ha.run W tk pos F pins s σ H ds M Z _ I hs hkl) fun us s1 ⟨vs, H1, xs, M1, I1, r1, st, mm, rp, hq1⟩ => ?_) (by rw [star_cons hns]; rfl) (star_any (by unfold noStars; simp [hns])) (kw_all hkw) (kw_none hkw)
  obtain ⟨d, rfl⟩ : ∃ d, xs = [d] := by
    match xs, hq1 with
    | [d], _ => exact ⟨d, rfl⟩
  obtain ⟨htab, hq2⟩ := hq1
  refine thn (hk.run W tk pos F pins s1 σ H1 ds M1 Z (fun ys M2 => M2 = M1 ∧ ∃ o, lamR X params body scope o ∧ ys = [.act o [] []]) I1 (hs.to st mm) ⟨htab, fun o ho => ⟨rfl, o, ho, rfl⟩⟩) fun ws s2 ⟨zs, H2, ys, M2, I2, r2, st2, mm2, rp2, eM, o, ho, ey⟩ => ?_
  subst eM ey
  rw [kw_ks hkw]
  obtain ⟨v0, rfl, rv0⟩ := repA1 rp
  obtain ⟨vf, rfl, rvf⟩ := repA1 rp2
  obtain ⟨u0, rfl, e0⟩ := vals1 r1
  obtain ⟨uf, rfl, ef⟩ := vals1 r2
  cases hl : lstOf M2 d with
  | none => rw [hl] at hq2; exact hq2.elim
  | some xs =>
  rw [hl] at hq2
  obtain ⟨β, bs, g, k, rfl, htb, hal, hsk, hdp, hlen, hQ⟩ := hq2
  have sl1 := hs.sl.step st.fix
  have sl2 := sl1.step st2.fix
  obtain ⟨al, vl, rfl, sq, ra⟩ := lstOf_sq mm2 (rv0.step st2.fix) hl
  cases e0
  have hact : ∃ f, vf = .ref f := by
    cases rvf
    exact ⟨_, rfl⟩
  obtain ⟨f, rfl⟩ := hact
  cases ef
  obtain ⟨its, rv, hpl, hz⟩ := I2.list sq
  have hbl : bs.length = vl.length := by rw [ra.len, List.length_map]
  have hil : its.length = bs.length := by rw [hbl]; exact rv.length.symm
  show wpAny _ _ (call (.builtin "sorted") [.ref al] [(Str.ofString "key", .ref f)]) _ _ s2
  refine sorted_of_sort hpl.isList (by rw [hil]; exact hlen) (ksk_s1 _ _) (fun _ => ksk_l1 _ _) fun E' => ?_
  rw [ksk_t1]
  unfold ksk_tree
  have I3 : Inv X pins σ H2 { s2 with heap := copyHeap s2.heap its } := I2.kept (t' := s2.toks) fun b o e => copyHeap_old e
  have ca := copyHeap_at s2.heap its
  have la : Loose X pins (s2.heap.objs.size + 1) := loose_of I2 (Nat.le_succ _)
  have na : H2 (s2.heap.objs.size + 1) = none := I2.hok.fresh (Nat.le_succ _)
  refine wpAny_bind (listItems_at ca rfl ?_)
  refine wpAny_bind (listUpdate_at ca rfl ?_ (by rw [List.size_toArray, hil]; exact hlen) (Nat.zero_le _))
  obtain ⟨e1, ca1⟩ : ∃ e1, ((copyHeap s2.heap its).update (s2.heap.objs.size + 1) (Obj.mapSeq fun _ => (#[] : Array Value))).get? (s2.heap.objs.size + 1) = some (seqObj "list" #[] e1) := ⟨_, get?_update_seq ca fun _ => #[]⟩
  refine wpAny_bind (seqEpoch_at ca1 rfl ?_)
  refine wpAny_bind (wpAny_newTuple ?_ (by show its.length ≤ _; rw [hil]; exact hlen))
  refine wpAny_bind (wpAny_newList ?_ (Nat.zero_le _))
  refine wpAny_holding ?_
  have hsz1 : (((copyHeap s2.heap its).update (s2.heap.objs.size + 1) (Obj.mapSeq fun _ => (#[] : Array Value))).push (seqObj "tuple" its.toArray 0)).objs.size = (copyHeap s2.heap its).objs.size + 1 := by rw [size_push', Heap.size_update]
  have I4 : Inv X pins σ H2 { s2 with heap := (copyHeap s2.heap its).update (s2.heap.objs.size + 1) (Obj.mapSeq fun _ => (#[] : Array Value)) } := la.turned (tk := s2.toks) I3 na fun b o hb e => (Heap.get?_update_ne _ _ _ _ hb).trans e
  have hge : s2.heap.objs.size ≤ (copyHeap s2.heap its).objs.size := by
    have := Heap.lt_size ca
    exact Nat.le_trans (Nat.le_succ _) (Nat.le_of_lt this)
  have lk : Loose X pins (((copyHeap s2.heap its).update (s2.heap.objs.size + 1) (Obj.mapSeq fun _ => (#[] : Array Value))).push (seqObj "tuple" its.toArray 0)).objs.size := loose_of I2 (by rw [hsz1]; exact Nat.le_succ_of_le hge)
  have nk : H2 (((copyHeap s2.heap its).update (s2.heap.objs.size + 1) (Obj.mapSeq fun _ => (#[] : Array Value))).push (seqObj "tuple" its.toArray 0)).objs.size = none := I2.hok.fresh (by rw [hsz1]; exact Nat.le_succ_of_le hge)
  have I5 : Inv X pins σ H2 { s2 with heap := (((copyHeap s2.heap its).update (s2.heap.objs.size + 1) (Obj.mapSeq fun _ => (#[] : Array Value))).push (seqObj "tuple" its.toArray 0)).push (seqObj "list" #[] 0) } := I4.kept (t' := s2.toks) fun b o e => Heap.get?_push_of_some _ (Heap.get?_push_of_some _ e)
  have hka : (((copyHeap s2.heap its).update (s2.heap.objs.size + 1) (Obj.mapSeq fun _ => (#[] : Array Value))).push (seqObj "tuple" its.toArray 0)).objs.size ≠ s2.heap.objs.size + 1 := by
    rw [hsz1]
    exact Nat.ne_of_gt (Nat.lt_succ_of_lt (Heap.lt_size ca))
  have eR : EachIs (fun u x => ∃ v, RelV v u ∧ Rep X.K (ak F M2) H2 v (g x)) its bs := vals_each rv ra
  refine keyD_rest (kz := bs.map k) I5 mm2 la lk na nk hka (Heap.get?_push_of_some _ (Heap.get?_push_of_some _ ca1)) (Heap.get?_push_size _ rfl) (by rw [List.length_map, hil]) (by rw [hil]; exact hlen) hal hsk ?hu ?turn ?fin
  case hu =>
    intro d' hd'
    obtain ⟨x, hx, rfl⟩ := List.mem_map.mp hd'
    have h1 := hdp x hx
    have h2 := hr.un
    show X.A.units + 1 + 1 + _ < cLine
    omega
  case turn =>
    intro i u kd hu hkd Hi si Ii sti mmi
    rw [List.getElem?_map] at hkd
    cases qb : bs[i]? with
    | none => rw [qb] at hkd; cases hkd
    | some x =>
      rw [qb] at hkd
      have hkd : some (k x) = some kd := hkd
      cases hkd
      have hz2 : (u, x) ∈ its.zip bs := List.mem_of_getElem? (i := i) (by rw [List.getElem?_zip_eq_some]; exact ⟨hu, qb⟩)
      obtain ⟨v, rvu, rpv⟩ := eR.zip _ hz2
      have hrr : Room (kk + 1) X.A.in1.in1 := Room.in1 (Room.in1 hr)
      have hfr : X.A.in1.in1.frames = some X.stack := I2.ok.frames
      refine wpAny_mono (lam1_run (Q := fun d' M' => M' = M2 ∧ toPy d' = some (k x)) Ii mmi (sl2.step sti.fix) L hde hbd ho hb hrr hfr (rvf.step sti.fix) rvu (rpv.step sti.fix) (htb x (List.mem_of_getElem? qb) _ fun y hy => ⟨rfl, hy⟩)) (fun u' s' hh => ?_) fun _ _ h => h
      obtain ⟨v', H', d', M', a1, a2, a3, a4, a5, a6, a7, a8, rfl, a10⟩ := hh
      exact ⟨v', H', a1, a2, a3, a4, a5, a6, a7, d', a8, a10⟩
  case fin =>
    intro H6 s6 h' tk' cc out I6 st6 mm6 na6 nk6 kp oa ko
    refine ⟨rfl, ?_⟩
    have eo := keyedOut_each k ko eR
    obtain ⟨vs', q1, q2⟩ := each_vals eo
    have hol : out.length = its.length := ko.length (by rw [List.length_map, hil])
    have I7 := inv_sorted (tk := tk') I6 la lk na6 nk6 hka kp oa q1 (by rw [q1.length, hol, hil]; exact hlen)
    refine ⟨.ref _, _, .lst ((bs.mergeSort (dataLe false k)).map g), M2, I7, rfl, ((st.trans st2).trans st6).trans (stp_new na6), mm6.new na6, mm6.newL na6 (q2.step st6.fix), hQ⟩
end
end L2.Dl

namespace L2.Dl
open PySem PySem.Spec PyProof.Rows
/-! ### several tables of code objects -/
abbrev AtD := Str × Option Str
def tabOf (K : PySem.W.Frag) (at_ : AtD) : Option (Addr × Addr) := match K.lookup (He.fAd K at_) with
  | some o => (match o.data with
    | .func fd => (match fd.code with
      | .ref c => (match K.lookup c with
        | some oc => (match oc.data with
          | .fields vs => (match (vs[11]? : Option Value) with
            | some (.ref P) => if hdB oc vs c P = true then some (c, P) else none
            | _ => none)
          | _ => none)
        | none => none)
      | _ => none)
    | _ => none)
  | none => none
theorem tabOf_ok {K : PySem.W.Frag} {at_ : AtD} {c P : Addr} (h : tabOf K at_ = some (c, P)) : (∃ o fd, K.lookup (He.fAd K at_) = some o ∧ o.data = .func fd ∧ fd.code = .ref c) ∧ ∀ h : Heap, K.In h → PySem.W.CodeHd h c P := by
  unfold tabOf at h
  split at h
  case h_2 => cases h
  rename_i o e1
  split at h
  case h_2 => cases h
  rename_i fd e2
  split at h
  case h_2 => cases h
  rename_i c' e3
  split at h
  case h_2 => cases h
  rename_i oc e4
  split at h
  case h_2 => cases h
  rename_i vs e5
  split at h
  case h_2 => cases h
  rename_i P' e6
  split at h
  case isFalse => cases h
  rename_i hb
  cases h
  refine ⟨⟨o, fd, e1, e2, e3⟩, fun hh hk => ?_⟩
  unfold hdB at hb
  simp only [Bool.and_eq_true] at hb
  obtain ⟨b1, b2, b3, b4, b5, b6, b7⟩ := hb
  have t1 : oc.cls = .type "code" := by
    unfold tyB at b1
    split at b1
    · rename_i m e; rw [e, of_decide_eq_true b1]
    · cases b1
  have t2 : vs.getD 11 .none = .ref P := by
    unfold refB at b2
    split at b2
    · rename_i m e; rw [e, of_decide_eq_true b2]
    · cases b2
  have t3 : ∃ f t, vs.getD 18 .none = .str f t := by
    unfold strB at b3
    split at b3
    · rename_i f t e; exact ⟨f, t, e⟩
    · cases b3
  have t4 : ∃ f t, vs.getD 7 .none = .int f t := by
    unfold intB at b4
    split at b4
    · rename_i f t e; exact ⟨f, t, e⟩
    · cases b4
  have t5 : ∃ f, vs.getD 9 .none = .bool f := by
    unfold boolB at b5
    split at b5
    · rename_i f e; exact ⟨f, e⟩
    · cases b5
  have t6 : ∃ f t, vs.getD 10 .none = .int f t := by
    unfold intB at b6
    split at b6
    · rename_i f t e; exact ⟨f, t, e⟩
    · cases b6
  obtain ⟨f3, u3, t3⟩ := t3
  obtain ⟨f4, u4, t4⟩ := t4
  obtain ⟨f5, t5⟩ := t5
  obtain ⟨f6, u6, t6⟩ := t6
  exact ⟨oc, vs, f3, u3, f4, u4, f5, f6, u6, hk _ _ e4, t1, e5, e6, t2, t3, t4, t5, t6, by simpa using b7⟩
def tabC (K : PySem.W.Frag) (a : AtD) : Addr := ((tabOf K a).getD (0, 0)).1
def tabP (K : PySem.W.Frag) (a : AtD) : Addr := ((tabOf K a).getD (0, 0)).2
def tabsG (ts : List AtD) (g : Addr → Option Obj) (K : PySem.W.Frag) : Bool := (ts.all fun a => match tabOf K a with
  | some (c, P) => (match g P with | some o => emptyTab o | none => false) && (K.lookup P).isNone
  | none => false) && decide ((ts.map (tabP K)).Nodup)
structure TabsAt (ts : List AtD) (K : PySem.W.Frag) (h : Heap) : Prop where
  at_ : ∀ a ∈ ts, tabOf K a = some (tabC K a, tabP K a) ∧ K.lookup (tabP K a) = none ∧ h.get? (tabP K a) = some { cls := .none, data := .fields #[] }
  nd : (ts.map (tabP K)).Nodup
theorem tabsG_ok {ts : List AtD} {h : Heap} {K : PySem.W.Frag} (e : tabsG ts h.get? K = true) : TabsAt ts K h := by
  unfold tabsG at e
  obtain ⟨e1, e2⟩ := Bool.and_eq_true_iff.mp e
  refine ⟨fun a ha => ?_, of_decide_eq_true e2⟩
  have e := List.all_eq_true.mp e1 a ha
  unfold tabC tabP
  split at e
  · rename_i c P q
    obtain ⟨h1, h2⟩ := Bool.and_eq_true_iff.mp e
    rw [q]
    refine ⟨rfl, Option.isNone_iff_eq_none.mp h2, ?_⟩
    split at h1
    · rename_i o qo
      show h.get? P = _
      rw [qo, emptyTab_ok h1]
    · cases h1
  · cases e
def obsTG (as : List Addr) (ts : List AtD) (fa : List He.Fa) (fn : List He.DefD) (fx : List (PySem.W.Frag → Bool)) (fe fr : List He.DefD) (g : Addr → Option Obj) : AlL :=
  let K := frL g as
  (obsZ fa fn fx fe fr K, tabsG ts g K)
def hookT (as : List Addr) (ts : List AtD) (fa : List He.Fa) (fn : List He.DefD) (fx : List (PySem.W.Frag → Bool)) (fe fr : List He.DefD) : PySem.W.Hook where
  α := AlL
  obs := fun s => obsTG as ts fa fn fx fe fr s.heap.get?
  val := fun _ => (vaZ fn fe fr, true)
  says := fun _ h => ∃ K : PySem.W.Frag, K.In h ∧ SaysZ fa fn fx fe fr K ∧ TabsAt ts K h
  of := fun w s e => by
    have e : obsTG as ts fa fn fx fe fr s.heap.get? = (vaZ fn fe fr, true) := e
    unfold obsTG at e
    exact ⟨_, frL_in, congrArg (fun z : AlL => z.1) e, tabsG_ok (congrArg (fun z : AlL => z.2) e)⟩
  keeps := fun _ _ _ ⟨K, hK, c, t⟩ k => ⟨K, PySem.W.Frag.In.keeps hK k, c, fun a ha => ⟨(t.at_ a ha).1, (t.at_ a ha).2.1, k _ _ (t.at_ a ha).2.2⟩, t.nd⟩
theorem obsTG_eq {as : List Addr} {ts : List AtD} {fa : List He.Fa} {fn : List He.DefD} {fx : List (PySem.W.Frag → Bool)} {fe fr : List He.DefD} {g : Addr → Option Obj} {s : Shared} (h : ∀ a, g a = s.heap.get? a) : obsTG as ts fa fn fx fe fr g = (hookT as ts fa fn fx fe fr).obs s := by
  have e : g = s.heap.get? := funext h
  rw [e] <;> rfl
/-- the tables over a base -/
structure Tbs (ts : List AtD) (K : PySem.W.Frag) (mg : Str → Option Value) (base : Heap) : Prop where
  tb : ∀ a ∈ ts, LamX.TabB base mg (tabC K a) (tabP K a)
  code : ∀ a ∈ ts, ∃ o fd, K.lookup (He.fAd K a) = some o ∧ o.data = .func fd ∧ fd.code = .ref (tabC K a)
/-! ### the law -/
def spLawTs (Ps : List (Addr × Str)) : SpD := fun xs M Z Q => ∃ ns : List Int, xs = [.scr ns] ∧ M = Ps.map (fun p => (p.1, .tab p.2)) ∧ (Ps.map (·.1)).Nodup ∧ ∀ M, Q (.bl true) M
theorem law_spTs {K : PySem.W.Frag} {H : Hp} {a : Addr} {Ps : List (Addr × Str)} {ns : List Int} (nd : (Ps.map (·.1)).Nodup) (hP : ∀ p ∈ Ps, H p.1 = some (.tbl #[])) (h : SqL K H a (ns.map V.int)) : spOf K (spLawTs Ps) [.ref a] H (fun v _ => v = .bl true) (fun _ _ _ => False) := by
  have ek : keys (Ps.map fun p => (p.1, MO.tab p.2)) = Ps.map (·.1) := by
    show (Ps.map fun p => (p.1, MO.tab p.2)).map (·.1) = _
    rw [List.map_map]
    rfl
  refine ⟨[], [.scr ns], Ps.map (fun p => (p.1, .tab p.2)), X0, fun d _ => d = .bl true, ⟨by rw [ek]; exact nd, fun b mo hm => ?_, fun _ h => (nomatch h)⟩, .cons (.scr ?_) .nil, ⟨ns, rfl, rfl, nd, fun _ => rfl⟩, fun v H' d M' _ _ rp e => ?_, fun _ _ _ _ _ _ _ _ _ _ _ z => z.elim⟩
  · obtain ⟨p, hp, e⟩ := List.mem_map.mp hm
    cases e
    refine ⟨#[], hP p hp, True.intro, fun pos cv hc => ?_⟩
    have z : codeAmong pos [] = some cv := hc
    simp [codeAmong] at z
  · rcases h with h | h
    · refine .inl ⟨fun z => ?_, h⟩
      have z : a ∈ Ps.map (·.1) := by
        have z : a ∈ keys (Ps.map fun p => (p.1, MO.tab p.2)) := by simpa [ak] using z
        rw [ek] at z
        exact z
      obtain ⟨p, hp, rfl⟩ := List.mem_map.mp z
      have := hP p hp
      rcases h with h | ⟨o, h⟩ <;> rw [this] at h <;> cases h
    · exact .inr h
  · subst e
    cases rp
    rfl
theorem walk_ofTs {l : PySem.W.OpenLaw} {n k : Nat} {q : Program} {loose : List Str} {XP : (Str → Option Value) → Heap → Prop} {YP : World → Heap → Prop} {d : DefRec} {CX : CXT} {x : Str}
    (hn : l.most = some n) (hn2 : n ≤ sizeLine) (hdf : d.params.defaults = []) (hr : Room k callerA)
    (F : ∀ (w : World) (mg : Str → Option Value) (fa : Addr) (h : Heap), YP w h → h.Ns mainGlobals mg → mg d.name = some (.ref fa) →
      ∃ (K : PySem.W.Frag) (fd : FuncData) (ts : List AtD) (sp : Sp), K.In h ∧ TabsAt ts K h ∧ (∀ (s : Shared) (u : Value), BindsTo s fd ⟨[u], []⟩ [(x, u)]) ∧
        (∀ (H : Hp) (a : Addr) (ns : List Int), ns.length ≤ n → (∀ t ∈ ts, H (tabP K t) = some (.tbl #[])) → SqL K H a (ns.map V.int) → sp [.ref a] H (fun v _ => v = .bl true) fun _ _ _ => False) ∧
        ∀ base : Heap, K.In base → base.Ns mainGlobals mg → Tbs ts K mg base → FnOk l.prog w K mg base CX k fa fd [x] sp)
    (hCX : ∀ (H : Hp) (s : Shared) (e : Value) (s' : Shared), CX [] H s (fun _ _ _ => False) e s' → False) :
    PySem.W.WalkO q loose XP YP l.row.toRowW d [] (fun f vs => PySem.call f vs) := by
  refine Att.attach_call hn hdf fun w s₀ s₁ mg mb fa o pm cd doc a vs ns G Y ho hd hcd hmg hobj hints hlen hg => ?_
  obtain ⟨K, fd, ts, sp, KX, T, hb, hsp, hF⟩ := F w mg fa _ Y G.T.g hmg
  have hmem : ∀ p ∈ ts.map (fun t => (tabC K t, tabP K t)), ∃ t ∈ ts, p = (tabC K t, tabP K t) := fun p hp => by
    obtain ⟨t, ht, e⟩ := List.mem_map.mp hp
    exact ⟨t, ht, e.symm⟩
  refine LamX.law_callTs (cs := ts.map (fun t => (tabC K t, tabP K t))) KX G.T.g G.T.b G.T.builtins G.T.nolimit hg (fun p hp => ?_) (fun p hp => ?_) (fun p hp => ?_) G.T.bmain hobj hints (Nat.le_trans hlen hn2) hr (fun base h1 h2 h3 => hF base h1 h2 ⟨fun t ht => h3 (tabC K t, tabP K t) (List.mem_map.mpr ⟨t, ht, rfl⟩), fun t ht => (tabOf_ok (T.at_ t ht).1).1⟩) hb (fun H hH hS => hsp H a ns hlen (fun t ht => hH (tabC K t, tabP K t) (List.mem_map.mpr ⟨t, ht, rfl⟩)) hS) fun H e s' => hCX H s₁ e s'
  · obtain ⟨t, ht, rfl⟩ := hmem p hp
    exact (T.at_ t ht).2.2
  · obtain ⟨t, ht, rfl⟩ := hmem p hp
    exact (T.at_ t ht).2.1
  · obtain ⟨t, ht, rfl⟩ := hmem p hp
    exact (tabOf_ok (T.at_ t ht).1).2 _ KX
end L2.Dl

namespace L2.Dl
open PySem PySem.Spec PyProof.Rows
def top (i : Nat) : Stmt := PySem.Challenge.pw_cardsapart_k52_looks_refused.main.body.getD i (.Pass ⟨0, 0, 0, 0⟩)
def inC (i j : Nat) : Stmt := match top i with | .ClassDef _ _ _ b _ _ _ _ _ _ _ => b.getD j (.Pass ⟨0, 0, 0, 0⟩) | _ => .Pass ⟨0, 0, 0, 0⟩
def errs : List Str := ["InvalidWord", "InvalidLook", "Stuck", "UnknownName", "NothingLeft"]
def flds : List Str := ["code", "name", "stamp", "given", "at", "word", "test", "fate", "line", "limit", "most", "looks"]
abbrev s_InvalidWord : Stmt := inC 3 0
def d_InvalidWord : He.DefD := ⟨("InvalidWord", some "__init__"), "__init__", "InvalidWord.__init__", defArgs s_InvalidWord, defBody s_InvalidWord, defScope s_InvalidWord, [], []⟩
abbrev s_InvalidLook : Stmt := inC 4 0
def d_InvalidLook : He.DefD := ⟨("InvalidLook", some "__init__"), "__init__", "InvalidLook.__init__", defArgs s_InvalidLook, defBody s_InvalidLook, defScope s_InvalidLook, [], []⟩
abbrev s_Stuck : Stmt := inC 5 0
def d_Stuck : He.DefD := ⟨("Stuck", some "__init__"), "__init__", "Stuck.__init__", defArgs s_Stuck, defBody s_Stuck, defScope s_Stuck, [], []⟩
abbrev s_UnknownName : Stmt := inC 6 0
def d_UnknownName : He.DefD := ⟨("UnknownName", some "__init__"), "__init__", "UnknownName.__init__", defArgs s_UnknownName, defBody s_UnknownName, defScope s_UnknownName, [], []⟩
abbrev s_NothingLeft : Stmt := inC 7 0
def d_NothingLeft : He.DefD := ⟨("NothingLeft", some "__init__"), "__init__", "NothingLeft.__init__", defArgs s_NothingLeft, defBody s_NothingLeft, defScope s_NothingLeft, [], []⟩
def isM : List (KD × List KD) := [(.ty "NoneType", []), (.ty "bool", []), (.ty "int", []), (.ty "str", [.ty "str"]), (.ty "list", [.ty "list"]), (.ty "tuple", []), (.own "Ranked", [.own "Ranked"]), (.own "Jammed", [.own "Jammed"]), (.own "InvalidWord", []), (.own "InvalidLook", []), (.own "Stuck", []), (.own "UnknownName", []), (.own "NothingLeft", [])]
def isC : List KD := [.own "Ranked", .own "Jammed", .ty "list", .ty "str"]
def objs : List Str := ["Ranked", "Jammed"]
abbrev s__law_bag : Stmt := top 27
def d__law_bag : He.DefD := ⟨("_law_bag", none), "_law_bag", "_law_bag", defArgs s__law_bag, defBody s__law_bag, defScope s__law_bag, [], []⟩
abbrev s__law_pick : Stmt := top 28
def d__law_pick : He.DefD := ⟨("_law_pick", none), "_law_pick", "_law_pick", defArgs s__law_pick, defBody s__law_pick, defScope s__law_pick, [], []⟩
abbrev s__law_of : Stmt := top 29
def d__law_of : He.DefD := ⟨("_law_of", none), "_law_of", "_law_of", defArgs s__law_of, defBody s__law_of, defScope s__law_of, [], []⟩
abbrev s__law_like : Stmt := top 31
def d__law_like : He.DefD := ⟨("_law_like", none), "_law_like", "_law_like", defArgs s__law_like, defBody s__law_like, defScope s__law_like, [], []⟩
abbrev s_is_word : Stmt := top 12
def d_is_word : He.DefD := ⟨("is_word", none), "is_word", "is_word", defArgs s_is_word, defBody s_is_word, defScope s_is_word, [], []⟩
abbrev s__law_field : Stmt := top 32
def d__law_field : He.DefD := ⟨("_law_field", none), "_law_field", "_law_field", defArgs s__law_field, defBody s__law_field, defScope s__law_field, [], []⟩
abbrev s__law_ask : Stmt := top 33
def d__law_ask : He.DefD := ⟨("_law_ask", none), "_law_ask", "_law_ask", defArgs s__law_ask, defBody s__law_ask, defScope s__law_ask, [], []⟩
abbrev s__law_asks : Stmt := top 34
def d__law_asks : He.DefD := ⟨("_law_asks", none), "_law_asks", "_law_asks", defArgs s__law_asks, defBody s__law_asks, defScope s__law_asks, [], []⟩
abbrev s__law_mixed : Stmt := top 30
def d__law_mixed : He.DefD := ⟨("_law_mixed", none), "_law_mixed", "_law_mixed", defArgs s__law_mixed, defBody s__law_mixed, defScope s__law_mixed, [], []⟩
abbrev s__law_names : Stmt := top 35
def d__law_names : He.DefD := ⟨("_law_names", none), "_law_names", "_law_names", defArgs s__law_names, defBody s__law_names, defScope s__law_names, [], []⟩
abbrev s_is_list : Stmt := top 13
def d_is_list : He.DefD := ⟨("is_list", none), "is_list", "is_list", defArgs s_is_list, defBody s_is_list, defScope s_is_list, [], []⟩
abbrev s_is_look : Stmt := top 15
def d_is_look : He.DefD := ⟨("is_look", none), "is_look", "is_look", defArgs s_is_look, defBody s_is_look, defScope s_is_look, [], []⟩
abbrev s_need_looks : Stmt := top 16
def d_need_looks : He.DefD := ⟨("need_looks", none), "need_looks", "need_looks", defArgs s_need_looks, defBody s_need_looks, defScope s_need_looks, [], []⟩
abbrev s_copied_looks : Stmt := top 17
def d_copied_looks : He.DefD := ⟨("copied_looks", none), "copied_looks", "copied_looks", defArgs s_copied_looks, defBody s_copied_looks, defScope s_copied_looks, [], []⟩
abbrev s_Ranked___init__ : Stmt := inC 18 0
def d_Ranked___init__ : He.DefD := ⟨("Ranked", some "__init__"), "__init__", "Ranked.__init__", defArgs s_Ranked___init__, defBody s_Ranked___init__, defScope s_Ranked___init__, [], []⟩
abbrev s_Jammed___init__ : Stmt := inC 19 0
def d_Jammed___init__ : He.DefD := ⟨("Jammed", some "__init__"), "__init__", "Jammed.__init__", defArgs s_Jammed___init__, defBody s_Jammed___init__, defScope s_Jammed___init__, [], []⟩
abbrev s_Ranked___bool__ : Stmt := inC 18 4
def d_Ranked___bool__ : He.DefD := ⟨("Ranked", some "__bool__"), "__bool__", "Ranked.__bool__", defArgs s_Ranked___bool__, defBody s_Ranked___bool__, defScope s_Ranked___bool__, [], []⟩
abbrev s_Jammed___bool__ : Stmt := inC 19 3
def d_Jammed___bool__ : He.DefD := ⟨("Jammed", some "__bool__"), "__bool__", "Jammed.__bool__", defArgs s_Jammed___bool__, defBody s_Jammed___bool__, defScope s_Jammed___bool__, [], []⟩
abbrev s_told_back : Stmt := top 20
def d_told_back : He.DefD := ⟨("told_back", none), "told_back", "told_back", defArgs s_told_back, defBody s_told_back, defScope s_told_back, [], []⟩
abbrev s_possible : Stmt := top 23
def d_possible : He.DefD := ⟨("possible", none), "possible", "possible", defArgs s_possible, defBody s_possible, defScope s_possible, [], []⟩
abbrev s_sure_word : Stmt := top 25
def d_sure_word : He.DefD := ⟨("sure_word", none), "sure_word", "sure_word", defArgs s_sure_word, defBody s_sure_word, defScope s_sure_word, [], []⟩
abbrev s_law : Stmt := top 36
def d_law : He.DefD := ⟨("law", none), "law", "law", defArgs s_law, defBody s_law, defScope s_law, [], []⟩
def fn : List He.DefD := [d__law_bag, d__law_pick, d__law_of, d__law_like, d_is_word, d__law_field, d__law_ask, d__law_asks, d__law_mixed, d__law_names, d_is_list, d_is_look, d_need_looks, d_copied_looks, d_Ranked___init__, d_Jammed___init__, d_Ranked___bool__, d_Jammed___bool__, d_told_back, d_possible, d_sure_word, d_law]
def fa : List He.Fa := [.free "list", .free "len", .free "abs", .free "int", .glo "_law_pick", .free "tuple", .free "isinstance", .free "zip", .glo "_law_like", .free "all", .free "bool", .free "str", .int "MOST_WORD" 40, .str "FIGURES" "0123456789", .str "LETTERS" "abcdefghijklmnopqrstuvwxyz", .glo "CardError", .glo "Missing", .glo "NothingLeft", .glo "_law_field", .glo "_law_ask", .glo "_law_mixed", .glo "_law_of", .free "range", .glo "is_word", .glo "is_list", .free "enumerate", .free "any", .glo "is_look", .glo "InvalidLook", .glo "copied_looks", .free "dict", .mkr "Ranked", .mkr "Jammed", .glo "need_looks", .glo "Jammed", .glo "Ranked", .glo "_law_bag", .glo "_law_names", .glo "_law_asks", .glo "told_back", .meth "Ranked" "__bool__", .glo "possible", .glo "sure_word", .glo "law"]
def fx : List (PySem.W.Frag → Bool) := [supB, errB "InvalidWord" "ValueError" "ValueError.__new__" "ValueError.__init__" [.type "ValueError", .type "Exception", .type "BaseException", .type "object"] "/claim/cut.py" flds, errB "InvalidLook" "ValueError" "ValueError.__new__" "ValueError.__init__" [.type "ValueError", .type "Exception", .type "BaseException", .type "object"] "/claim/cut.py" flds, errB "Stuck" "ValueError" "ValueError.__new__" "ValueError.__init__" [.type "ValueError", .type "Exception", .type "BaseException", .type "object"] "/claim/cut.py" flds, errB "UnknownName" "LookupError" "LookupError.__new__" "LookupError.__init__" [.type "LookupError", .type "Exception", .type "BaseException", .type "object"] "/claim/cut.py" flds, errB "NothingLeft" "IndexError" "IndexError.__new__" "IndexError.__init__" [.type "IndexError", .type "LookupError", .type "Exception", .type "BaseException", .type "object"] "/claim/cut.py" flds, mroB isM isC, insB "Ranked", insB "Jammed", fun K => errs.all fun C => match PySem.W.typeIn K (.ref (He.ga K C)) with | some (.type n) => decide (n = "type") | _ => false, fun K => errs.all fun C => match PySem.W.exmAny K (.ref (He.ga K C)) [.ref (He.ga K "CardError"), .ref (He.ga K "Missing"), .ref (He.ga K "NothingLeft")] with | some true => true | _ => false, fldB ["Ranked", "Jammed"] "own_cards", fldB ["Ranked", "Jammed"] "own_looks", fldB ["Ranked"] "own_order", fldB ["Ranked"] "own_words", fldB ["Jammed"] "own_some"]
def fe : List He.DefD := [d_InvalidWord, d_InvalidLook, d_Stuck, d_UnknownName, d_NothingLeft]
def fr : List He.DefD := []
abbrev Tx (P : Program) (K : PySem.W.Frag) (mg : Str → Option Value) : Prop := TopZ fa fn fx fe fr "/claim/cut.py" P K mg
abbrev TxX (X : Cx) : Prop := Tx X.prog X.K X.mg
def ts : List AtD := [("law", none)]
def tbK (K : PySem.W.Frag) (n : Nat) : Addr := tabP K (ts.getD n ("", none))
abbrev Bx (K : PySem.W.Frag) (mg : Str → Option Value) (base : Heap) : Prop := Tbs ts K mg base
abbrev lawTs (tb : Nat → Addr) : List (Addr × Str) := [(tb 0, "law.<locals>.<lambda>")]
end L2.Dl
set_option maxHeartbeats 0
namespace L2.Dl
open PySem PySem.Spec PyProof.Rows
abbrev R : PySem.W.OpenRow := PySem.W.OpenLaw.row PySem.Challenge.rw_cardsapart_k52_looks_refused
def theAs : List Addr := ([2, 3, 6, 4, 24, 37, 59, 80, 101, 122, 143, 151, 158, 163, 170, 175, 225, 272, 281, 288, 295, 302, 307, 312, 319, 326, 333, 340, 345, 352, 359, 364, 369, 374, 0, 23, 36, 58, 79, 100] : List Nat) ++ ([121, 142, 150, 157, 162, 169, 174, 224, 271, 280, 287, 294, 301, 306, 311, 318, 325, 332, 339, 344, 351, 358, 363, 368, 373, 22, 25, 35, 38, 56, 57, 77, 78, 98, 99, 119, 120, 140, 141, 144] : List Nat) ++ ([147, 148, 149, 152, 153, 154, 155, 156, 159, 160, 161, 164, 165, 166, 167, 168, 171, 172, 173, 189, 196, 203, 208, 215, 222, 223, 226, 227, 243, 250, 255, 262, 269, 270, 273, 274, 277, 278, 279, 282] : List Nat) ++ ([283, 284, 285, 286, 289, 290, 291, 292, 293, 296, 297, 298, 299, 300, 303, 304, 305, 308, 309, 310, 313, 314, 315, 316, 317, 320, 321, 322, 323, 324, 327, 328, 329, 330, 331, 334, 335, 336, 337, 338] : List Nat) ++ ([341, 342, 343, 346, 347, 348, 349, 350, 353, 354, 355, 356, 357, 360, 361, 362, 365, 366, 367, 370, 371, 372, 55, 44, 76, 65, 97, 86, 118, 107, 139, 128, 188, 195, 202, 207, 214, 221, 242, 249] : List Nat) ++ ([254, 261, 268, 50, 51, 52, 53, 54, 71, 72, 73, 74, 75, 92, 93, 94, 95, 96, 113, 114, 115, 116, 117, 134, 135, 136, 137, 138, 183, 184, 185, 186, 187, 190, 191, 192, 193, 194, 197, 198] : List Nat) ++ ([199, 200, 201, 204, 205, 206, 209, 210, 211, 212, 213, 216, 217, 218, 219, 220, 237, 238, 239, 240, 241, 244, 245, 246, 247, 248, 251, 252, 253, 256, 257, 258, 259, 260, 263, 264, 265, 266, 267] : List Nat)
abbrev hk : PySem.W.Hook := hookT theAs ts fa fn fx fe fr
def ob (s : PySem.W.SharedT) : AlL := obsTG theAs ts fa fn fx fe fr (HandSHeadRun.getT s)
theorem ob_eq (s : PySem.W.SharedT) : ob s = hk.obs s.abs := obsTG_eq (HandSHeadRun.getT_eq s)
def loose : List PySem.Str := (["CardError", "Missing", "InvalidWord", "InvalidLook", "Stuck", "UnknownName", "NothingLeft", "LETTERS", "FIGURES", "MOST_WORD", "is_word", "is_list", "is_look", "need_looks", "copied_looks", "Ranked", "Jammed", "told_back", "fits_with", "need_card", "possible", "fresh_word", "sure_word", "_law_bag", "_law_pick", "_law_of", "_law_mixed", "_law_like", "_law_field", "_law_ask"] : List PySem.Str) ++ (["_law_asks", "_law_names"] : List PySem.Str)
theorem run (w : World) : HandSHeadRun.RunEq R (PySem.W.view R.prog [36]) hk ob 20000 loose w := by
  intro os
  kernel_rfl
end L2.Dl
set_option maxHeartbeats 4000000
namespace L2.Dl
open PySem PySem.Spec PyProof.Rows
/-! ### dicts that change, by keys int or text -/
def dNewK : TD := fun _ M _ Q => ∀ p, p ∉ keys M → Q (.ref p) ((p, .dK []) :: M)
@[simp ↓] theorem dNewK_eq : ∀ ds M Z Q, dNewK ds M Z Q = (∀ p, p ∉ keys M → Q (.ref p) ((p, .dK []) :: M)) := fun _ _ _ _ => rfl
/-- d[k] = v -/
def dPutK (td ty tv : TD) : TSD := fun E ds M => tv ds M (E.xd ds) fun v M1 => td ds M1 (E.xd ds) fun x M2 => ty ds M2 (E.xd ds) fun y M3 => match x with
  | .ref a => (match M3.lookup a with
    | some (.dK kvs) => kvs.length < sizeLine ∧ optK (keyD y) fun k => E.nx ds (put M3 a (.dK (putKD kvs k v)))
    | _ => False)
  | _ => False
@[simp ↓] theorem dPutK_eq (td ty tv : TD) : ∀ E ds M, dPutK td ty tv E ds M = (tv ds M (E.xd ds) fun v M1 => td ds M1 (E.xd ds) fun x M2 => ty ds M2 (E.xd ds) fun y M3 => match x with
  | .ref a => (match M3.lookup a with
    | some (.dK kvs) => kvs.length < sizeLine ∧ optK (keyD y) fun k => E.nx ds (put M3 a (.dK (putKD kvs k v)))
    | _ => False)
  | _ => False) := fun _ _ _ => rfl
section
variable {X : Cx} {o i value : Expr} {pos pos' : Pos} {td ty tv : TD}
theorem d_newK : PD X (.Dict [] [] pos) dNewK := by
  refine PD.of (fun W tk => pe_dnewK) fun W F σ H ds M Z Q hs ht => fun p hp => ?_
  refine ⟨.ref p, (p, .dK []) :: M, stp_cons hp, hs.mm.cons hp ⟨[], upd_same, .nil⟩, .ref p, ht p fun z => ?_⟩
  exact hs.mm.notin hp (List.mem_append_left _ z)
theorem s_dputK (hu : X.A.units + 1 < cLine) (ho : PD X o td) (hi : PD X i ty) (hv : PD X value tv) (hs : swapsWith value (some (.Subscript o i pos')) pos.line X.env = pure false := by rfl) : PSD X (.Assign [.Subscript o i pos'] value pos) (dPutK td ty tv) := by
  refine PSD.of (fun W tk => ps_dput hu (ho.pe tk) (hi.pe tk) (hv.pe tk) hs) fun W F σ H ds M E hst kx ht => ?_
  have hex := hst.ex kx
  refine ⟨F, ds, M, _, _, hex, ht, fun v H1 d M1 st mm rp q => ?_⟩
  refine ⟨F, ds, M1, _, _, hex.to st mm, q, fun v2 H2 d2 M2 st2 mm2 rp2 q2 => ?_⟩
  refine ⟨F, ds, M2, _, _, (hex.to st mm).to st2 mm2, q2, fun v3 H3 d3 M3 st3 mm3 rp3 q3 => ?_⟩
  cases d2 with
  | ref a =>
    cases rp2
    dsimp only at q3
    cases hl : M3.lookup a with
    | none => rw [hl] at q3; exact q3.elim
    | some mo =>
      rw [hl] at q3
      cases mo with
      | dK kvs =>
        obtain ⟨hz, q3⟩ := q3
        obtain ⟨k, e2, q3⟩ := optK_ex q3
        obtain ⟨vs, h1, h2⟩ := mm3.get hl
        cases key_rep rp3 e2
        have rv := (rp.step st2.fix).step st3.fix
        have hk : a ∈ keys M3 := lookup_key hl
        have r := h2.putK (k := k) rv
        have stw : Stp H3 (keys M3) (upd H3 a (.dK (L2.putK vs k v))) (keys M3) := stp_put hk
        refine ⟨a, _, rfl, DPut.k h1 (by rw [h2.len]; exact hz), ds, put M3 a (.dK (putKD kvs k d)), ?_, ⟨mm3.put hk ?_, ?_⟩, q3⟩
        · rw [keys_put]
          exact ((st.trans st2).trans st3).trans stw
        · exact ⟨_, upd_same, r.step stw.fix⟩
        · have : ak F (put M3 a (.dK (putKD kvs k d))) = ak F M3 := by unfold ak; rw [keys_put]
          rw [this]
          exact (((hst.sl.step st.fix).step st2.fix).step st3.fix).step stw.fix
      | _ => exact q3.elim
  | _ => exact (show False from q3).elim
end
end L2.Dl

namespace L2.Dl
open PySem PySem.Spec PyProof.Rows
/-! ### a list or a tuple is walked; what was made is let go at the end of a def -/
def iQ (t : TD) : TID := fun ds M Z Q => t ds M Z fun x M1 => match x with | .lst xs => Q xs M1 | .tup xs => Q xs M1 | _ => False
@[simp ↓] theorem iQ_eq (t : TD) : ∀ ds M Z Q, iQ t ds M Z Q = (t ds M Z fun x M1 => match x with | .lst xs => Q xs M1 | .tup xs => Q xs M1 | _ => False) := fun _ _ _ _ => rfl
def iSeqV (K : PySem.W.Frag) (tl : TE) : TI := fun σ H R => tl σ H fun x H1 => ∃ a, x = .ref a ∧ (((∃ xs, SqL K H1 a xs) ∧ R (Itl K a) H1) ∨ ((∃ xs, SqT K H1 a xs) ∧ R (Itt K a) H1))
section
variable {X : Cx} {tg e : Expr} {te : TD}
theorem pi_seqV {l : Expr} {tl : TE} (hl : PE X l tl) : PI X tg l (iSeqV X.K tl) := by
  refine ⟨fun pins s σ H R I h => ?_⟩
  refine thn (hl.run pins s σ H _ I h) fun v s1 ⟨x, H1, I1, r1, q1⟩ => ?_
  obtain ⟨a, e, q⟩ := q1
  subst e
  cases r1
  have fp : ∀ b ∈ [s1.heap.objs.size], FpOk X pins H1 b := fun b hb => by
    have e : b = s1.heap.objs.size := by simpa using hb
    subst e
    exact I1.fpOk (Nat.le_refl _) (I1.hok.fresh (Nat.le_refl _))
  rcases q with ⟨⟨xs, hq⟩, q⟩ | ⟨⟨xs, hq⟩, q⟩
  · obtain ⟨its, rv, p, hz⟩ := I1.list hq
    refine wpAny_pyIter_list p.isList ?_
    exact ⟨s1.heap.objs.size, [s1.heap.objs.size], _, _, H1, rfl, I1.kept (t' := s1.toks) fun b o e => Heap.get?_push_of_some _ e, turn_list a _, ⟨_, Heap.get?_push_size _ rfl, rfl, rfl⟩, fp, q⟩
  · obtain ⟨its, rv, p, hz⟩ := I1.tuple hq
    refine wpAny_pyIter_tuple (show s1.heap.IsTuple a its.toArray from p) ?_
    exact ⟨s1.heap.objs.size, [s1.heap.objs.size], _, _, H1, rfl, I1.kept (t' := s1.toks) fun b o e => Heap.get?_push_of_some _ e, turn_tuple a _, ⟨_, Heap.get?_push_size _ rfl, rfl, rfl⟩, fp, q⟩
theorem i_seq (h : PD X e te) : PID X tg e (iQ te) := by
  refine ⟨fun W tk => ?_⟩
  refine ⟨_, pi_seqV (h.pe tk), fun F σ H ds M Z QI hs ht RV k => ?_⟩
  refine ⟨F, ds, M, _, _, hs, ht, fun v H1 d M1 st mm rp q => ?_⟩
  cases d with
  | lst xs =>
    cases rp with
    | lst hx r => exact ⟨_, rfl, .inl ⟨⟨_, hx.sq⟩, k _ H1 xs M1 st mm (walkd_list hx r) q⟩⟩
  | tup xs =>
    cases rp with
    | tup hx r => exact ⟨_, rfl, .inr ⟨⟨_, hx.sq⟩, k _ H1 xs M1 st mm (walkd_tup hx r) q⟩⟩
  | _ => exact (show False from q).elim
end
theorem keys_sub {M M2 : MM} (s : M2.Sublist M) : (keys M2).Sublist (keys M) := s.map _
theorem stp_sub {H : Hp} {M M2 : MM} (s : M2.Sublist M) : Stp H (keys M) H (keys M2) := ⟨fun _ _ _ e => e, fun b hb => .inl ((keys_sub s).subset hb)⟩
theorem RMM.sub {K : PySem.W.Frag} {F : List Addr} {H : Hp} {M M2 : MM} (m : RMM K F H M) (s : M2.Sublist M) : RMM K F H M2 :=
  ⟨m.nd.sublist (keys_sub s), fun a mo ha => (m.at_ a mo (s.subset ha)).step (stp_sub s).fix rfl, fun f hf => ⟨fun z => (m.fd f hf).1 ((keys_sub s).subset z), (m.fd f hf).2⟩⟩
def trX (Z : XD) : XD := fun C fs M1 => ∃ M2, M2.Sublist M1 ∧ Z C fs M2
def trQ (Q : QD) : QD := fun d M1 => ∃ M2, M2.Sublist M1 ∧ Q d M2
theorem KQ.tr {K : PySem.W.Frag} {F : List Addr} {H : Hp} {M : MM} {Q : QD} {QV : VK} (k : KQ K F H M Q QV) : KQ K F H M (trQ Q) QV := fun v H' d M' st mm rp ⟨M2, s, q⟩ => k v H' d M2 (st.trans (stp_sub s)) (mm.sub s) (rp.step (stp_sub s).fix) q
theorem KX.tr {K : PySem.W.Frag} {F : List Addr} {H : Hp} {M : MM} {Z : XD} {E : XK} (k : KX K F H M Z E) : KX K F H M (trX Z) E := fun C fs vs d H' M' st mm e n r ⟨M2, s, q⟩ => k C fs vs d H' M2 (st.trans (stp_sub s)) (mm.sub s) e (fun z => n (by
  unfold ak at z ⊢
  rcases List.mem_append.mp z with z | z
  · exact List.mem_append_left _ ((keys_sub s).subset z)
  · exact List.mem_append_right _ z)) (r.step (stp_sub s).fix) q
/-- as sp, but what was made may be let go -/
def tr (sp : SpD) : SpD := fun xs M Z Q => ∃ Z0 Q0, sp xs M Z0 Q0 ∧ (∀ C fs M1 M2, M2.Sublist M1 → Z0 C fs M2 → Z C fs M1) ∧ ∀ d M1 M2, M2.Sublist M1 → Q0 d M2 → Q d M1
theorem fn_trim {P : Program} {w : World} {K : PySem.W.Frag} {mg : Str → Option Value} {base : Heap} {CX : CXT} {k : Nat} {f : Addr} {fd : FuncData} {ps : List Str} {sp : SpD} (F : FnOk P w K mg base CX k f fd ps (spOf K (tr sp))) : FnOk P w K mg base CX k f fd ps (spOf K sp) :=
  F.imp fun vs H Q E ⟨F, xs, M, Z, QD, mm, r, h, kq, kx⟩ => ⟨F, xs, M, trX Z, trQ QD, mm, r, ⟨Z, QD, h, fun _ _ _ M2 s z => ⟨M2, s, z⟩, fun _ _ M2 s z => ⟨M2, s, z⟩⟩, kq.tr, kx.tr⟩
theorem FnS.trim {P : Program} {w : World} {K : PySem.W.Frag} {mg : Str → Option Value} {base : Heap} {k : Nat} {f : Addr} {ks : List Str} {sp : SpS} (h : FnS P w K mg base k f ks (fun xs ys M Z Q => ∃ Z0 Q0, sp xs ys M Z0 Q0 ∧ (∀ C fs M1 M2, M2.Sublist M1 → Z0 C fs M2 → Z C fs M1) ∧ ∀ d M1 M2, M2.Sublist M1 → Q0 d M2 → Q d M1)) : FnS P w K mg base k f ks sp :=
  fun A outer s H us ws vs zs F xs ys M Z QD Q E hr e0 r1 r2 l mm a b q kq kx => h A outer s H us ws vs zs F xs ys M (trX Z) (trQ QD) Q E hr e0 r1 r2 l mm a b ⟨Z, QD, q, fun _ _ _ M2 s z => ⟨M2, s, z⟩, fun _ _ M2 s z => ⟨M2, s, z⟩⟩ kq.tr kx.tr
/-! ### dicts by keys: what is in -/
theorem val_put (kvs : List (Key × D)) (k j : Key) (v : D) : valD (putKD kvs k v) j = if j = k then some v else valD kvs j := by
  unfold valD putKD
  by_cases h : (kvs.any fun kv => decide (kv.1 = k)) = true
  · rw [if_pos h]
    induction kvs with
    | nil => simp at h
    | cons a r ih =>
      rw [List.map_cons, List.find?_cons, List.find?_cons]
      by_cases e : a.1 = k
      · simp only [e, if_true]
        by_cases ej : j = k
        · simp [ej]
        · have ek : ¬ k = j := fun z => ej z.symm
          simp only [ek, decide_false, ej, if_false]
          by_cases h2 : (r.any fun kv => decide (kv.1 = k)) = true
          · have := ih h2
            rw [this, if_neg ej]
          · have : (r.map fun kv => if kv.1 = k then (kv.1, v) else kv) = r := by
              have hn : ∀ kv ∈ r, kv.1 ≠ k := fun kv hk z => h2 (List.any_eq_true.mpr ⟨kv, hk, by simp [z]⟩)
              conv => rhs; rw [← List.map_id r]
              exact List.map_congr_left fun kv hk => by rw [if_neg (hn kv hk)]; rfl
            rw [this]
      · simp only [e, if_false]
        have h2 : (r.any fun kv => decide (kv.1 = k)) = true := by simpa [e] using h
        by_cases ej : a.1 = j
        · have : ¬ j = k := fun z => e (ej.trans z)
          simp [ej, this]
        · simp only [ej, decide_false]
          exact ih h2
  · rw [if_neg h, List.find?_append]
    by_cases ej : j = k
    · subst ej
      have : kvs.find? (fun kv => decide (kv.1 = j)) = none := by
        rw [List.find?_eq_none]
        intro kv hk z
        exact h (List.any_eq_true.mpr ⟨kv, hk, z⟩)
      rw [this]
      simp
    · rw [if_neg ej]
      have : ¬ k = j := fun z => ej z.symm
      simp [this]
theorem put_len (kvs : List (Key × D)) (k : Key) (v : D) : (putKD kvs k v).length ≤ kvs.length + 1 := by
  unfold putKD
  split
  · simp
  · simp
end L2.Dl
/-! ### a list against an empty one: its length decides -/
namespace L2.Dl
open PySem PySem.Spec PyProof.Rows
def rEqN (K : PySem.W.Frag) (g : Bool → Bool) : R2 := fun x y H Q => ∃ a b xs ys, x = .ref a ∧ y = .ref b ∧ SqL K H a xs ∧ SqL K H b ys ∧ (xs = [] ∨ xs.length ≠ ys.length) ∧ Q (.bl (g (decide (xs.length = ys.length)))) H
def dEqN (g : Bool → Bool) : R2D := fun x y M Q => optK (lstOf M x) fun xs => optK (lstOf M y) fun ys => (xs = [] ∨ xs.length ≠ ys.length) ∧ Q (.bl (g (decide (xs.length = ys.length)))) M
@[simp ↓] theorem dEqN_eq (g : Bool → Bool) : ∀ x y M Q, dEqN g x y M Q = (optK (lstOf M x) fun xs => optK (lstOf M y) fun ys => (xs = [] ∨ xs.length ≠ ys.length) ∧ Q (.bl (g (decide (xs.length = ys.length)))) M) := fun _ _ _ _ => rfl
@[simp] theorem lstOf_lst (M : MM) (xs : List D) : lstOf M (.lst xs) = some xs := rfl
section
variable {X : Cx}
theorem op_eqN (hu : X.A.units < cLine) : OpR X (compareOp .Eq) (rEqN X.K id) := by
  intro pins s σ H x y v u Q I rx ry h
  obtain ⟨a, b, xs, ys, rfl, rfl, h1, h2, hc, q⟩ := h
  cases rx
  cases ry
  obtain ⟨its, r1, p1, z1⟩ := I.list h1
  obtain ⟨jts, r2, p2, z2⟩ := I.list h2
  have e1 := r1.length
  have e2 := r2.length
  by_cases hl : xs.length = ys.length
  · have hx : xs = [] := hc.resolve_right fun z => z hl
    subst hx
    have e3 : its = [] := List.eq_nil_of_length_eq_zero (by simpa using e1.symm)
    have e4 : jts = [] := List.eq_nil_of_length_eq_zero (by rw [← e2, ← hl]; rfl)
    subst e3 e4
    exact SeqAt.RcAt.lists (e := fun _ => true) p1.isList p2.isList rfl hu (fun j h1 => by simp at h1) _ _ _ _ ⟨.bl _, H, I, rfl, by simpa [hl] using q⟩
  · have hl' : (its.toArray.size != jts.toArray.size) = true := by
      simp [← e1, ← e2, hl]
    exact SeqAt.RcAt.lists_lengths p1.isList p2.isList hl' hu _ _ _ _ ⟨.bl _, H, I, rfl, by simpa [hl] using q⟩
theorem op_neN (hu : X.A.units < cLine) : OpR X (compareOp .NotEq) (rEqN X.K not) := by
  intro pins s σ H x y v u Q I rx ry h
  obtain ⟨a, b, xs, ys, rfl, rfl, h1, h2, hc, q⟩ := h
  cases rx
  cases ry
  obtain ⟨its, r1, p1, z1⟩ := I.list h1
  obtain ⟨jts, r2, p2, z2⟩ := I.list h2
  have e1 := r1.length
  have e2 := r2.length
  by_cases hl : xs.length = ys.length
  · have hx : xs = [] := hc.resolve_right fun z => z hl
    subst hx
    have e3 : its = [] := List.eq_nil_of_length_eq_zero (by simpa using e1.symm)
    have e4 : jts = [] := List.eq_nil_of_length_eq_zero (by rw [← e2, ← hl]; rfl)
    subst e3 e4
    exact SeqAt.RcNeAt.lists (e := fun _ => true) p1.isList p2.isList rfl hu (fun j h1 => by simp at h1) _ _ _ _ ⟨.bl _, H, I, rfl, by simpa [hl] using q⟩
  · have hl' : (its.toArray.size != jts.toArray.size) = true := by
      simp [← e1, ← e2, hl]
    exact SeqAt.RcNeAt.lists_lengths p1.isList p2.isList hl' hu _ _ _ _ ⟨.bl _, H, I, rfl, by simpa [hl] using q⟩
theorem eqN_of {g : Bool → Bool} {K : PySem.W.Frag} {F : List Addr} {H : Hp} {M : MM} {x y : V} {dx dy : D} {Q : QD} {QV : VK} (mm : RMM K F H M) (rx : Rep K (ak F M) H x dx) (ry : Rep K (ak F M) H y dy) (hr : dEqN g dx dy M Q) (k : KQ K F H M Q QV) : rEqN K g x y H QV := by
  obtain ⟨xs, e1, hr⟩ := optK_ex (show optK (lstOf M dx) _ from hr)
  obtain ⟨ys, e2, hr⟩ := optK_ex hr
  obtain ⟨a, vs, rfl, s1, r1⟩ := lstOf_sq mm rx e1
  obtain ⟨b, ws, rfl, s2, r2⟩ := lstOf_sq mm ry e2
  have l1 := r1.len
  have l2 := r2.len
  refine ⟨a, b, vs, ws, rfl, rfl, s1, s2, ?_, k.at mm (.bl _) (by rw [l1, l2]; exact hr.2)⟩
  rcases hr.1 with z | z
  · subst z
    exact .inl (List.eq_nil_of_length_eq_zero l1)
  · exact .inr (by rw [l1, l2]; exact z)
theorem c_eqN (hu : X.A.units < cLine) : OpD X (compareOp .Eq) (dEqN id) := ⟨_, op_eqN hu, fun F H M x y dx dy Q QV mm rx ry hr k => eqN_of mm rx ry hr k⟩
theorem c_neN (hu : X.A.units < cLine) : OpD X (compareOp .NotEq) (dEqN not) := ⟨_, op_neN hu, fun F H M x y dx dy Q QV mm rx ry hr k => eqN_of mm rx ry hr k⟩
end
end L2.Dl

namespace L2.Dl
open PySem PySem.Spec PyProof.Rows RZ
/-! ### a name's list comes to rest; a comprehension over a list that may change -/
/-- from here on the list of slot i stands still -/
def dFrzS (i : Nat) (t : TSD) : TSD := fun E ds M => slotK ds[i]? fun d => match d with
  | .ref p => optK ((M.lookup p).bind frzO) fun d' => t E (ds.set i (some d')) (drop M p)
  | _ => t E ds M
@[simp ↓] theorem dFrzS_eq (i : Nat) (t : TSD) : ∀ E ds M, dFrzS i t E ds M = (slotK ds[i]? fun d => match d with
  | .ref p => optK ((M.lookup p).bind frzO) fun d' => t E (ds.set i (some d')) (drop M p)
  | _ => t E ds M) := fun _ _ _ => rfl
theorem frz_rep {K : PySem.W.Frag} {F : List Addr} {H : Hp} {M : MM} {p : Addr} {d : D} (mm : RMM K F H M) (h : (M.lookup p).bind frzO = some d) : Rep K (ak F (drop M p)) H (.ref p) d := by
  cases e1 : M.lookup p with
  | none => rw [e1] at h; cases h
  | some mo =>
    rw [e1] at h
    cases mo with
    | lst xs =>
      cases h
      obtain ⟨n, vs, h1, h2⟩ := frz_ok mm e1
      exact .lst ⟨n, h1⟩ h2
    | obj C fs =>
      cases h
      obtain ⟨n, dx, vs, h1, h2⟩ := frz_ok mm e1
      exact .obj n h1 h2
    | dK fs =>
      cases h
      obtain ⟨n, vs, h1, h2⟩ := frz_ok mm e1
      exact .dK n h1 h2
    | dT fs =>
      cases h
      obtain ⟨n, vs, h1, h2⟩ := frz_ok mm e1
      exact .dT n h1 h2
    | bag => cases h
    | tab _ => cases h
    | tup xs =>
      cases h
      obtain ⟨n, vs, h1, h2⟩ := frz_ok mm e1
      exact .tup (.inl ⟨n, h1⟩) h2
theorem ends_to {X : Cx} {F : List Addr} {pins : List (Addr × Obj)} {H : Hp} {M M1 : MM} {E : EndsD} {f : Flow} {s' : Shared} (st : Stp H (keys M) H (keys M1)) (h : SPD X F pins H M1 E f s') : SPD X F pins H M E f s' := by
  cases f with
  | next => obtain ⟨σ', H', I, ds', M', s1, tt, q⟩ := h; exact ⟨σ', H', I, ds', M', st.trans s1, tt, q⟩
  | brk => obtain ⟨σ', H', I, ds', M', s1, tt, q⟩ := h; exact ⟨σ', H', I, ds', M', st.trans s1, tt, q⟩
  | cont => obtain ⟨σ', H', I, ds', M', s1, tt, q⟩ := h; exact ⟨σ', H', I, ds', M', st.trans s1, tt, q⟩
  | ret v => obtain ⟨v', σ', H', I, r, d, M', s1, mm, rp, q⟩ := h; exact ⟨v', σ', H', I, r, d, M', st.trans s1, mm, rp, q⟩
theorem s_frzS {X : Cx} {st : Stmt} {t : TSD} (i : Nat) (h : PSD X st t) : PSD X st (dFrzS i t) := by
  refine ⟨fun W tk F pins s σ H ds M E I hs kx ht => ?_⟩
  unfold dFrzS slotK at ht
  split at ht
  · rename_i d e
    split at ht
    · rename_i p
      obtain ⟨d', e1, ht⟩ := optK_ex ht
      obtain ⟨v, hv, rv⟩ := hs.sl.at_ i _ e
      have rp := frz_rep hs.mm e1
      cases rv
      have sl2 := (hs.sl.step (stp_drop (p := p)).fix).put (i := i) rp
      have eσ : σ.set i (some (V.ref p)) = σ := by
        have hi : i < σ.length := (List.getElem?_eq_some_iff.mp hv).1
        refine List.ext_getElem? fun j => ?_
        rw [List.getElem?_set]
        split
        · rename_i z
          subst z
          first | exact hv.symm | (rw [if_pos hi, hv])
        · rfl
      rw [eσ] at sl2
      refine wpAny_mono (h.run W tk F pins s σ H _ _ E I ⟨hs.mm.drop p, sl2⟩ (kx.on stp_drop) ht) (fun f s' hf => ends_to stp_drop hf) fun _ _ z => z
    · exact h.run W tk F pins s σ H _ _ E I hs kx ht
  · exact ht.elim

theorem fix_borrow {H : Hp} {F : List Addr} {M : MM} {p : Addr} (hp : p ∈ keys M) : Fix H (ak F M) H (ak (p :: F) (drop M p)) := fun a u ha e => by
  refine ⟨fun z => ha ?_, e⟩
  rcases List.mem_append.mp z with z | z
  · exact List.mem_append_left _ (drop_sub z).1
  · rcases List.mem_cons.mp z with z | z
    · rw [z]; exact List.mem_append_left _ hp
    · exact List.mem_append_right _ z
theorem RMM.borrow {K : PySem.W.Frag} {F : List Addr} {H : Hp} {M : MM} {p : Addr} (m : RMM K F H M) (hp : p ∈ keys M) : RMM K (p :: F) H (L2.Dl.drop M p) := by
  refine ⟨(m.drop p).nd, fun a mo ha => (m.at_ a mo (List.mem_filter.mp ha).1).step (fix_borrow hp) rfl, fun f hf => ?_⟩
  rcases List.mem_cons.mp hf with z | hf
  · rw [z]
    refine ⟨fun q => (drop_sub q).2 rfl, ?_⟩
    obtain ⟨q, hq, e⟩ := List.mem_map.mp hp
    obtain ⟨a, mo⟩ := q
    cases e
    exact (m.at_ _ mo hq).some
  · exact ⟨fun q => (m.fd f hf).1 (drop_sub q).1, (m.fd f hf).2⟩
theorem fix_back {H : Hp} {F : List Addr} {M : MM} {p : Addr} {mo : MO} : Fix H (ak (p :: F) M) H (ak F ((p, mo) :: M)) := fun a u ha e => by
  refine ⟨fun z => ha ?_, e⟩
  rcases List.mem_append.mp z with z | z
  · rcases List.mem_cons.mp z with z | z
    · rw [z]; exact List.mem_append_right _ List.mem_cons_self
    · exact List.mem_append_left _ z
  · exact List.mem_append_right _ (List.mem_cons_of_mem _ z)
theorem RMM.back {K : PySem.W.Frag} {F : List Addr} {H : Hp} {M : MM} {p : Addr} {mo : MO} (m : RMM K (p :: F) H M) (hF : p ∉ F) (h : RepO K (ak (p :: F) M) H p mo) : RMM K F H ((p, mo) :: M) := by
  have hp : p ∉ keys M := (m.fd p List.mem_cons_self).1
  refine ⟨List.nodup_cons.mpr ⟨hp, m.nd⟩, fun a mo' ha => ?_, fun f hf => ?_⟩
  · rcases List.mem_cons.mp ha with e | ha
    · cases e
      exact h.step fix_back rfl
    · exact (m.at_ a mo' ha).step fix_back rfl
  · obtain ⟨h1, h2⟩ := m.fd f (List.mem_cons_of_mem _ hf)
    refine ⟨fun z => ?_, h2⟩
    rcases List.mem_cons.mp z with z | z
    · have z : f = p := z
      exact hF (z ▸ hf)
    · exact h1 z
def dLcR (i : Nat) (g : Tgt) (tt : TTD) (te : TD) (vs : List Nat) : TD := fun ds M Z Q => slotK ds[i]? fun d => match d with
  | .ref p => (match M.lookup p with | some (.lst xs) => lcGo g tt te (wipeD ds vs) (fun d M' => Q d ((p, .lst xs) :: M')) xs [] (drop M p) | _ => False)
  | _ => False
@[simp ↓] theorem dLcR_eq (i : Nat) (g : Tgt) (tt : TTD) (te : TD) (vs : List Nat) : ∀ ds M Z Q, dLcR i g tt te vs ds M Z Q = (slotK ds[i]? fun d => match d with
  | .ref p => (match M.lookup p with | some (.lst xs) => lcGo g tt te (wipeD ds vs) (fun d M' => Q d ((p, .lst xs) :: M')) xs [] (drop M p) | _ => False)
  | _ => False) := fun _ _ _ _ => rfl
theorem lc_okR {W : WX} {Z : XD} {F : List Addr} {σ : L2.St} {H : Hp} {ds : SD} {M : MM} {Q : QD} {QV : VK} {K : PySem.W.Frag} {g : Tgt} {tt : TTD} {te : TD} {vs : List Nat} {i : Nat} (hv : ∀ i ∈ g.slots, i ∈ vs)
    (hst : Stt K W F H σ ds M Z) (ht : dLcR i g tt te vs ds M Z Q) (k : KQ K F H M Q QV) : tLc (iList K (teOf K W (dVar i))) (tgV K g) (ttOf K W0 tt) (teOf K W0 te) vs σ H QV := by
  unfold dLcR slotK at ht
  split at ht
  case h_2 => exact ht.elim
  rename_i d0 e0
  split at ht
  case h_2 => exact ht.elim
  rename_i p
  split at ht
  case h_2 => exact ht.elim
  rename_i xs hl
  refine ⟨F, ds, M, Z, fun d M1 => d = .ref p ∧ M1 = M, hst, ?_, fun v H1 d M1 st mm rp e => ?_⟩
  · unfold dVar slotK
    rw [e0]
    exact ⟨rfl, rfl⟩
  obtain ⟨rfl, rfl⟩ := e
  cases rp
  have hp : p ∈ keys M1 := lookup_key hl
  obtain ⟨us, h1, h2⟩ := mm.get hl
  have hpF : p ∉ F := fun z => (mm.fd p z).1 hp
  refine ⟨p, rfl, ⟨us, .inl (.inl h1)⟩, ?_⟩
  have mmb := mm.borrow hp
  have rub := h2.step (fix_borrow (F := F) (H := H1) hp)
  have slb := (hst.sl.step st.fix).step (fix_borrow (F := F) (H := H1) hp)
  have hpd : p ∉ keys (drop M1 p) := fun z => (drop_sub z).2 rfl
  intro L hL
  have hLp : L ≠ p := fun z => by rw [z, h1] at hL; cases hL
  have hLF : L ∉ F := fun z => by
    obtain ⟨_, o, e⟩ := mm.fd L z
    rw [hL] at e; cases e
  refine ⟨fun i m H' => m = xs.length - i ∧ i ≤ xs.length ∧ ∃ acc vacc M', Stp H1 (keys (drop M1 p)) H' (keys M') ∧ Fix H1 (ak (p :: F) (drop M1 p)) H' (ak (L :: p :: F) M') ∧ RMM K (L :: p :: F) H' M' ∧ H' L = some (.lst vacc) ∧ RepA K (ak (L :: p :: F) M') H' vacc acc ∧ RSl K (ak (L :: p :: F) M') H' σ ds ∧ lcGo g tt te (wipeD ds vs) (fun d M' => Q d ((p, .lst xs) :: M')) (xs.drop i) acc M',
    ⟨xs.length, by simp, Nat.zero_le _, [], [], drop M1 p, stp_new hL, fix_hide hL, mmb.hide hL, upd_same, .nil, (slb.step (fix_hide hL)), ht⟩, ?_⟩
  rintro i m H' ⟨rfl, hle, acc, vacc, M', s1, f1, mm', hLa, ra, sl, w⟩
  have hp' : H' p = some (.lst us) := s1.keep p _ hpd h1
  have rus := rub.step f1
  by_cases hlt : i < xs.length
  · have hiu : i < us.length := by rw [rub.len]; exact hlt
    refine .inr ⟨⟨us, us[i], .inl (.inl hp'), by simp [hiu]⟩, fun H2 => ∃ acc vacc M2, Stp H1 (keys (drop M1 p)) H2 (keys M2) ∧ Fix H1 (ak (p :: F) (drop M1 p)) H2 (ak (L :: p :: F) M2) ∧ RMM K (L :: p :: F) H2 M2 ∧ H2 L = some (.lst vacc) ∧ RepA K (ak (L :: p :: F) M2) H2 vacc acc ∧ RSl K (ak (L :: p :: F) M2) H2 σ ds ∧ lcGo g tt te (wipeD ds vs) (fun d M' => Q d ((p, .lst xs) :: M')) (xs.drop (i + 1)) acc M2, fun H2 h => ⟨xs.length - (i + 1), by omega, rfl, hlt, h⟩, fun x H2 y => ?_⟩
    obtain ⟨eH, y⟩ := y
    subst eH
    obtain ⟨d, hd, rp⟩ := rus.getV (y us (.inl (.inl hp')))
    have s2 : Stp H2 (keys M') H2 (keys M') := .refl _ _
    have mm2 := mm'
    have hLk : L ∉ keys M' := (mm'.fd L List.mem_cons_self).1
    have e0 : xs.drop i = d :: xs.drop (i + 1) := by
      rw [List.drop_eq_getElem_cons hlt]
      rw [List.getElem?_eq_getElem hlt] at hd
      cases hd
      rfl
    have tn := w
    rw [e0] at tn
    have tn : optK (setT g d (wipeD ds vs)) (fun ds2 => tt ds2 M' X0 fun b M3 => if b = true then te ds2 M3 X0 fun y M4 => acc.length < sizeLine ∧ lcGo g tt te (wipeD ds vs) (fun d M' => Q d ((p, .lst xs) :: M')) (xs.drop (i + 1)) (acc ++ [y]) M4 else lcGo g tt te (wipeD ds vs) (fun d M' => Q d ((p, .lst xs) :: M')) (xs.drop (i + 1)) acc M3) := tn
    unfold optK at tn
    split at tn
    · rename_i ds2 e
      refine tg_ok rp e ((sl.step s2.fix).wipe vs) fun σ2 h2 hwp => ⟨?_, ?_⟩
      · rw [hwp vs hv, wipe_wipe vs vs fun _ h => h]
      · refine ⟨L :: p :: F, ds2, M', _, _, ⟨mm2, h2, kw0⟩, tn, fun b H3 M3 s3 mm3 q3 => ?_⟩
        cases b with
        | true =>
          refine iteT ⟨L :: p :: F, ds2, M3, _, _, ⟨mm3, h2.step s3.fix, kw0⟩, q3, fun yv H4 yd M4 s4 mm4 rp4 q4 => ?_⟩
          have s24 := (s2.trans s3).trans s4
          have o2 := s24.keep L _ hLk hLa
          have hm : L ∈ L :: p :: F := List.mem_cons_self
          have fx : Fix H4 (ak (L :: p :: F) M4) (upd H4 L (.lst (vacc ++ [yv]))) (ak (L :: p :: F) M4) := fix_hid hm
          refine ⟨vacc, o2, by rw [ra.len]; exact q4.1, acc ++ [yd], vacc ++ [yv], M4, ?_, ?_, mm4.hid hm, upd_same, ?_, ?_, q4.2⟩
          · have sA := (s1.trans s24)
            exact ⟨fun b o hb e => by rw [upd_ne (ne_of_none e hL)]; exact sA.keep b o hb e, sA.new⟩
          · exact (f1.trans s24.fix).trans fx
          · exact ((ra.step s24.fix).append (.cons rp4 .nil)).step fx
          · exact (sl.step s24.fix).step fx
        | false =>
          have s23 := s2.trans s3
          exact iteF ⟨acc, vacc, M3, s1.trans s23, f1.trans s23.fix, mm3, s23.keep L _ hLk hLa, ra.step s23.fix, sl.step s23.fix, q3⟩
    · exact tn.elim
  · have e : i = xs.length := by omega
    subst e
    rw [List.drop_length] at w
    have hLk : L ∉ keys M' := (mm'.fd L List.mem_cons_self).1
    have hpk : p ∉ keys M' := (mm'.fd p (List.mem_cons_of_mem _ List.mem_cons_self)).1
    have mmS : RMM K (p :: F) H' M' := mm'.show
    have ras := ra.step (fix_show (L := L) (F := p :: F) (M := M') (H := H'))
    have mmB : RMM K F H' ((p, .lst xs) :: M') := mmS.back hpF ⟨us, hp', rus.step fix_show⟩
    refine .inl ⟨⟨us, .inl (.inl hp'), by rw [rub.len]; exact Nat.le_refl _⟩, k _ H' _ ((p, .lst xs) :: M') (st.trans ⟨fun b o hb e => s1.keep b o (fun z => hb (drop_sub z).1) e, fun b hb => ?_⟩) mmB (.lst ⟨?_, hLa⟩ (ras.step fix_back)) w⟩
    · rcases List.mem_cons.mp hb with z | z
      · rw [z]; exact .inl hp
      · rcases s1.new b z with q | q
        · exact .inl (drop_sub q).1
        · exact .inr q
    · rw [List.mem_append, not_or]
      refine ⟨fun z => ?_, hLF⟩
      rcases List.mem_cons.mp z with z | z
      · exact hLp z
      · exact hLk z
section
variable {X : Cx} {pos : Pos} {tg : Expr}
theorem d_lcR {elt iter : Expr} {ifs : List Expr} {scope : Scope} {own : List (Str × Nat)} {i : Nat} {g : Tgt} {tt : TTD} {te : TD} (hc : X.calm = true) (hN : X.N.Nodup) (hi : PD X iter (dVar i)) (ok : BlkOk X.N X.env.scope scope own)
    (hg : ∀ (s : Shared) (H : Hp) (C : Addr) (cl : List (Str × Addr)) (fp : List Addr), PG (X.blk s H scope (compEnvC scope cl C X.env) fp) tg (tgV X.K g)) (ht : ∀ (s : Shared) (H : Hp) (C : Addr) (cl : List (Str × Addr)) (fp : List Addr), PTsD (X.blk s H scope (compEnvC scope cl C X.env) fp) ifs tt)
    (he : ∀ (s : Shared) (H : Hp) (C : Addr) (cl : List (Str × Addr)) (fp : List Addr), PD (X.blk s H scope (compEnvC scope cl C X.env) fp) elt te) (hv : ∀ i ∈ g.slots, i ∈ own.map (·.2) := by decide) (hs : ∀ x, foldedSetIterable iter X.env x = pure x := by intro _; rfl) :
    PD X (.ListComp elt [⟨tg, iter, ifs, 0⟩] scope pos) (dLcR i g tt te (own.map (·.2))) := by
  refine ⟨fun W tk F pins s σ H ds M Z Q I hst hq => ?_⟩
  refine thn ((pe_lc (tt := ttOf X.K W0 tt) (te := teOf X.K W0 te) hc hN (pi_list (hi.pe tk)) ok hg ht (fun s H C cl fp => (he s H C cl fp).pe takes0) hs).run pins s σ H _ I (lc_okR hv hst hq KQ.eq)) fun u s' hh => ?_
  obtain ⟨v, H', I', r, d, M', st, mm, rp, q⟩ := hh
  exact ⟨v, H', d, M', I', r, st, mm, rp, q⟩
end
end L2.Dl

namespace L2.Dl
open PySem PySem.Spec PyProof.Rows PySem.W
/-! ### sorted: of tuples too, and the new list may change -/
section
variable {prog : Program} {w : World} {A : Around} {E : Value → Shared → Prop} {s : Shared}
theorem collect_tup {l : Addr} {vs : List Value} {Q : List Value → Shared → Prop} (hl : s.heap.IsTuple l vs.toArray)
    (h : Q vs { s with heap := (s.heap.push (seqObj "list" #[] 0)).update s.heap.objs.size (Obj.mapSeq (· ++ vs.toArray)) }) (hsz : vs.length ≤ sizeLine) :
    wpAny (model prog w) A (collect (.ref l)) Q E s := by
  obtain ⟨o, ho, hc, n, hd⟩ := id hl
  unfold collect
  refine wpAny_bind (wpAny_runValue (codeAny_builtin entry_proto_collect' ?_))
  show wpAny _ _ (do again (.builtin "list.__iadd__" ⟨[← newList [], .ref l], []⟩)) _ _ s
  refine wpAny_bind (wpAny_newList (wpAny_pure ⟨Code.quiet_builtin _ (by decide +kernel), codeAny_builtin entry_list_iadd' ?_⟩))
  show wpAny _ _ (Builtin.List.listExtendWith (.ref s.heap.objs.size) (.ref l) (.ref s.heap.objs.size)) _ _ { s with heap := s.heap.push (seqObj "list" #[] 0) }
  unfold Builtin.List.listExtendWith
  have ho' : (s.heap.push (seqObj "list" #[] 0)).get? l = some o := Heap.get?_push_of_some _ ho
  refine wpAny_bind (wpAny_typeOf (T := "tuple") ⟨o, ho', hc⟩ ?_)
  have ht : (Value.type "tuple" == Value.type "tuple") = true := by rfl
  rw [if_pos (by rw [ht]; simp)]
  refine wpAny_bind (listItems_at ho' hd ?_)
  refine wpAny_bind (listItems_at (xs := #[]) (n := 0) (Heap.get?_push_size _ rfl) rfl ?_)
  rw [if_neg (by simp)]
  refine wpAny_bind (listUpdate_at (xs := #[]) (n := 0) (Heap.get?_push_size _ rfl) rfl ?_ (Nat.zero_le _) (by show (#[] ++ vs.toArray).size ≤ sizeLine + 1; simp only [Array.size_append, List.size_toArray, List.length_nil]; omega))
  refine wpAny_pure ?_
  show wpAny (model prog w) A (do
      let o ← load s.heap.objs.size
      match o.data with
      | .seq xs _ => pure xs.toList
      | _ => unsupported "internal:collect") Q E { s with heap := (s.heap.push (seqObj "list" #[] 0)).update s.heap.objs.size (Obj.mapSeq (· ++ vs.toArray)) }
  refine wpAny_bind (wpAny_load (get?_update_seq (Heap.get?_push_size _ rfl) _) ?_)
  show wpAny _ _ (pure ((#[] : Array Value) ++ vs.toArray).toList) Q E _
  rw [show ((#[] : Array Value) ++ vs.toArray).toList = vs by simp]
  exact wpAny_pure h
theorem sorted_of_sortQ {l : Addr} {vs : List Value} {kw : List (Str × Value)} {Q : Value → Shared → Prop} (hl : s.heap.IsList l vs.toArray ∨ s.heap.IsTuple l vs.toArray) (hL : vs.length ≤ sizeLine) (ha1 : argsOk "sorted" ⟨[.ref l], kw⟩) (ha2 : ∀ x, argsOk "list.sort" ⟨[.ref x], kw⟩)
    (body : ∀ E' : Value → Shared → Prop, wpAny (model prog w) A.in1.in1 (Builtin.«list.sort» ⟨[.ref (s.heap.objs.size + 1)], kw⟩) (fun f s' => f = .done (.ret .none) ∧ Q (.ref (s.heap.objs.size + 1)) s') E' { s with heap := copyHeap s.heap vs }) :
    wpAny (model prog w) A (call (.builtin "sorted") [.ref l] kw) Q E s := by
  rcases hl with hl | hl
  · exact sorted_of_sort hl hL ha1 ha2 body
  refine call_function_entry_kw kind_sorted plain_sorted entry_sorted ha1 ?_
  unfold Builtin.«sorted»
  refine wpAny_bind (m := checkCount "sorted" 1 1 _) (wpAny_pure ?_)
  refine wpAny_bind (collect_tup hl ?_ hL)
  refine wpAny_bind (wpAny_newList ?_ hL)
  have hsz : ((s.heap.push (seqObj "list" #[] 0)).update s.heap.objs.size (Obj.mapSeq (· ++ vs.toArray))).objs.size = s.heap.objs.size + 1 := by
    rw [Heap.size_update, size_push']
  show wpAny _ _ _ _ _ { s with heap := copyHeap s.heap vs }
  rw [hsz]
  refine wpAny_bind (wpAny_holding (wpAny_call_entry_kw slot_list_sort ⟨_, copyHeap_at s.heap vs, rfl⟩ entry_list_sort ?body (ha2 _)))
  case body =>
    show wpAny (model prog w) A.in1.in1 (Builtin.«list.sort» ⟨[.ref (s.heap.objs.size + 1)], kw⟩) _ _ _
    refine wpAny_mono (body _) (fun f s' hf => ?_) fun _ _ e => e
    obtain ⟨rfl, hq⟩ := hf
    exact ⟨_, rfl, wpAny_pure ⟨_, rfl, hq⟩⟩
end
/-- the items of a list or a tuple -/
def sqOf (M : MM) : D → Option (List D)
  | .tup xs => some xs
  | d => lstOf M d
@[simp] theorem sqOf_tup (M : MM) (xs : List D) : sqOf M (.tup xs) = some xs := rfl
@[simp] theorem sqOf_lst (M : MM) (xs : List D) : sqOf M (.lst xs) = some xs := rfl
theorem sqOf_sq {K : PySem.W.Frag} {F : List Addr} {H : Hp} {M : MM} {v : V} {d : D} {xs : List D} (mm : RMM K F H M) (r : Rep K (ak F M) H v d) (h : sqOf M d = some xs) : ∃ a vs, v = .ref a ∧ (SqL K H a vs ∨ SqT K H a vs) ∧ RepA K (ak F M) H vs xs := by
  cases d with
  | tup ys =>
    cases h
    cases r with
    | tup h1 h2 => exact ⟨_, _, rfl, .inr h1.sq, h2⟩
  | _ => first
    | (obtain ⟨a, vs, e, h1, h2⟩ := lstOf_sq mm r h
       exact ⟨a, vs, e, .inl h1, h2⟩)
theorem sq_its {X : Cx} {pins : List (Addr × Obj)} {σ : L2.St} {H : Hp} {s : Shared} {a : Addr} {xs : List V} (I : Inv X pins σ H s) (h : SqL X.K H a xs ∨ SqT X.K H a xs) : ∃ its : List Value, Vals xs its ∧ (s.heap.IsList a its.toArray ∨ s.heap.IsTuple a its.toArray) ∧ xs.length ≤ sizeLine := by
  rcases h with h | h
  · obtain ⟨its, r, p, z⟩ := I.list h
    exact ⟨its, r, .inl p.isList, z⟩
  · obtain ⟨its, r, p, z⟩ := I.tuple h
    exact ⟨its, r, .inr p, z⟩
/-- sorted(e, key=lambda p: ..): the keys are k's -/
def dSortQ (P : Addr) (q : Str) (ex : Nat) (te tb : TD) : TD := fun ds M Z Q => te ds M Z fun d M1 => M1.lookup P = some (.tab q) ∧ optK (sqOf M1 d) fun xs => ∃ (β : Type) (bs : List β) (g : β → D) (k : β → PyData), xs = bs.map g ∧
  (∀ x ∈ bs, ∀ Q' : QD, (∀ y, toPy y = some (k x) → Q' y M1) → tb (ds ++ some (g x) :: List.replicate ex none) M1 X0 Q') ∧ AllAlike (bs.map k) ∧ Sortable (bs.map k) ∧ (∀ x ∈ bs, (k x).depth ≤ 60) ∧ bs.length ≤ sizeLine ∧ ∀ p, p ∉ keys M1 → Q (.ref p) ((p, .lst ((bs.mergeSort (dataLe false k)).map g)) :: M1)
@[simp ↓] theorem dSortQ_eq (P : Addr) (q : Str) (ex : Nat) (te tb : TD) : ∀ ds M Z Q, dSortQ P q ex te tb ds M Z Q = (te ds M Z fun d M1 => M1.lookup P = some (.tab q) ∧ optK (sqOf M1 d) fun xs => ∃ (β : Type) (bs : List β) (g : β → D) (k : β → PyData), xs = bs.map g ∧
  (∀ x ∈ bs, ∀ Q' : QD, (∀ y, toPy y = some (k x) → Q' y M1) → tb (ds ++ some (g x) :: List.replicate ex none) M1 X0 Q') ∧ AllAlike (bs.map k) ∧ Sortable (bs.map k) ∧ (∀ x ∈ bs, (k x).depth ≤ 60) ∧ bs.length ≤ sizeLine ∧ ∀ p, p ∉ keys M1 → Q (.ref p) ((p, .lst ((bs.mergeSort (dataLe false k)).map g)) :: M1)) := fun _ _ _ _ => rfl
section
variable {X : Cx} {params : Arguments} {body : Expr} {scope : Scope} {p : Str} {b : Bool} {ex : List Str} {kk : Nat} {c P : Addr} {q : Str} {te tb : TD} {e : Expr} {pp lpos kpos pos : Pos}
theorem d_sortedQ (TB : LamX.TabB X.base X.mg c P) (hcode : X.env.code = .ref c) (hq : q = X.env.qual ++ "<lambda>") (L : LamS1 X.N X.env.scope scope p b ex)
    (hb : ∀ (A : Around) (s : Shared) (H : Hp) (f c' : Addr), Room kk (A.deeper (lamEnv1 X scope s.heap.objs.size f c' p b)) → PD (lamCx1 X A s H scope f c' p b ex) body tb) (hr : Room (kk + 3) X.A) (hm : X.mg "sorted" = none) (he : PD X e te)
    (hbd : ∀ (q : Str) (cl : List (Str × Addr)) (doc pm cv ct u : Value), bindArgs (PySem.W.kdv_fn "<lambda>" q params (.expr body) scope cl .none doc pm cv ct) ⟨[u], []⟩ = pure [(p, u)] := by exact fun _ _ _ _ _ _ _ => rfl)
    (hdef : defaultsOf params X.env = ([], []) := by rfl) (hde : params.defaults.isEmpty = true := by rfl) (hg : Gl X "sorted" := by rfl) (hns : notStar e = true := by rfl) :
    PD X (.Call (.Name "sorted" pp) [e] [⟨some "key", .Lambda params body scope lpos, kpos⟩] pos) (dSortQ P q ex.length te tb) := by
  refine ⟨fun W tk F pins s σ H ds M Z Q I hs ht => ?_⟩
  obtain ⟨rest, en, hrest⟩ := L.names
  have hfree : ∀ y ∈ scope.names, y.2 = .free → X.env.scope.names.lookup y.1 = some .cell ∨ X.env.scope.names.lookup y.1 = some .free := fun y hy hk => by
    rw [en] at hy
    rcases List.mem_cons.mp hy with z | z
    · rw [z] at hk
      cases b <;> cases hk
    · exact (hrest y z).2.2.2 hk
  have hlam : PD X (.Lambda params body scope lpos) (dLam ⟨P, q, fun _ o => lamR X params body scope o⟩ 0) := d_lam0 0 TB hcode hq (fun o h => h) hfree hdef hde
  have ha : PAD X [e] (dCons te dNil) := ad_cons he ad_nil hns
  have hk : PKD X [⟨some "key", .Lambda params body scope lpos, kpos⟩] (dCons (dLam ⟨P, q, fun _ o => lamR X params body scope o⟩ 0) dNil) := kd_cons hlam kd_nil
  refine wpAny_Call_Name_kw (ld_blt I hg hm bf_sorted ?_ (by decide) (by decide))
  have hkw : kwsOk [⟨some "key", .Lambda params body scope lpos, kpos⟩] ["key"] = true := rfl
  have hkl : (dCons te dNil) ds M Z (fun xs M1 => match xs with
    | [d] => M1.lookup P = some (.tab q) ∧ optK (sqOf M1 d) fun xs => ∃ (β : Type) (bs : List β) (g : β → D) (k : β → PyData), xs = bs.map g ∧ (∀ x ∈ bs, ∀ Q' : QD, (∀ y, toPy y = some (k x) → Q' y M1) → tb (ds ++ some (g x) :: List.replicate ex.length none) M1 X0 Q') ∧ AllAlike (bs.map k) ∧ Sortable (bs.map k) ∧ (∀ x ∈ bs, (k x).depth ≤ 60) ∧ bs.length ≤ sizeLine ∧ ∀ p, p ∉ keys M1 → Q (.ref p) ((p, .lst ((bs.mergeSort (dataLe false k)).map g)) :: M1)
    | _ => False) := ht
  refine PyProof.Rows.callWith_kw (thn (ha.run W tk pos F pins s σ H ds M Z _ I hs hkl) fun us s1 ⟨vs, H1, xs, M1, I1, r1, st, mm, rp, hq1⟩ => ?_) (by rw [star_cons hns]; rfl) (star_any (by unfold noStars; simp [hns])) (kw_all hkw) (kw_none hkw)
  obtain ⟨d, rfl⟩ : ∃ d, xs = [d] := by
    match xs, hq1 with
    | [d], _ => exact ⟨d, rfl⟩
  obtain ⟨htab, hq2⟩ := hq1
  refine thn (hk.run W tk pos F pins s1 σ H1 ds M1 Z (fun ys M2 => M2 = M1 ∧ ∃ o, lamR X params body scope o ∧ ys = [.act o [] []]) I1 (hs.to st mm) ⟨htab, fun o ho => ⟨rfl, o, ho, rfl⟩⟩) fun ws s2 ⟨zs, H2, ys, M2, I2, r2, st2, mm2, rp2, eM, o, ho, ey⟩ => ?_
  subst eM ey
  rw [kw_ks hkw]
  obtain ⟨v0, rfl, rv0⟩ := repA1 rp
  obtain ⟨vf, rfl, rvf⟩ := repA1 rp2
  obtain ⟨u0, rfl, e0⟩ := vals1 r1
  obtain ⟨uf, rfl, ef⟩ := vals1 r2
  cases hl : sqOf M2 d with
  | none => rw [hl] at hq2; exact hq2.elim
  | some xs =>
  rw [hl] at hq2
  obtain ⟨β, bs, g, k, rfl, htb, hal, hsk, hdp, hlen, hQ⟩ := hq2
  have sl1 := hs.sl.step st.fix
  have sl2 := sl1.step st2.fix
  obtain ⟨al, vl, rfl, sq, ra⟩ := sqOf_sq mm2 (rv0.step st2.fix) hl
  cases e0
  have hact : ∃ f, vf = .ref f := by
    cases rvf
    exact ⟨_, rfl⟩
  obtain ⟨f, rfl⟩ := hact
  cases ef
  obtain ⟨its, rv, hpl, hz⟩ := sq_its I2 sq
  have hbl : bs.length = vl.length := by rw [ra.len, List.length_map]
  have hil : its.length = bs.length := by rw [hbl]; exact rv.length.symm
  show wpAny _ _ (call (.builtin "sorted") [.ref al] [(Str.ofString "key", .ref f)]) _ _ s2
  refine sorted_of_sortQ hpl (by rw [hil]; exact hlen) (ksk_s1 _ _) (fun _ => ksk_l1 _ _) fun E' => ?_
  rw [ksk_t1]
  unfold ksk_tree
  have I3 : Inv X pins σ H2 { s2 with heap := copyHeap s2.heap its } := I2.kept (t' := s2.toks) fun b o e => copyHeap_old e
  have ca := copyHeap_at s2.heap its
  have la : Loose X pins (s2.heap.objs.size + 1) := loose_of I2 (Nat.le_succ _)
  have na : H2 (s2.heap.objs.size + 1) = none := I2.hok.fresh (Nat.le_succ _)
  refine wpAny_bind (listItems_at ca rfl ?_)
  refine wpAny_bind (listUpdate_at ca rfl ?_ (by rw [List.size_toArray, hil]; exact hlen) (Nat.zero_le _))
  obtain ⟨e1, ca1⟩ : ∃ e1, ((copyHeap s2.heap its).update (s2.heap.objs.size + 1) (Obj.mapSeq fun _ => (#[] : Array Value))).get? (s2.heap.objs.size + 1) = some (seqObj "list" #[] e1) := ⟨_, get?_update_seq ca fun _ => #[]⟩
  refine wpAny_bind (seqEpoch_at ca1 rfl ?_)
  refine wpAny_bind (wpAny_newTuple ?_ (by show its.length ≤ _; rw [hil]; exact hlen))
  refine wpAny_bind (wpAny_newList ?_ (Nat.zero_le _))
  refine wpAny_holding ?_
  have hsz1 : (((copyHeap s2.heap its).update (s2.heap.objs.size + 1) (Obj.mapSeq fun _ => (#[] : Array Value))).push (seqObj "tuple" its.toArray 0)).objs.size = (copyHeap s2.heap its).objs.size + 1 := by rw [size_push', Heap.size_update]
  have I4 : Inv X pins σ H2 { s2 with heap := (copyHeap s2.heap its).update (s2.heap.objs.size + 1) (Obj.mapSeq fun _ => (#[] : Array Value)) } := la.turned (tk := s2.toks) I3 na fun b o hb e => (Heap.get?_update_ne _ _ _ _ hb).trans e
  have hge : s2.heap.objs.size ≤ (copyHeap s2.heap its).objs.size := by
    have := Heap.lt_size ca
    exact Nat.le_trans (Nat.le_succ _) (Nat.le_of_lt this)
  have lk : Loose X pins (((copyHeap s2.heap its).update (s2.heap.objs.size + 1) (Obj.mapSeq fun _ => (#[] : Array Value))).push (seqObj "tuple" its.toArray 0)).objs.size := loose_of I2 (by rw [hsz1]; exact Nat.le_succ_of_le hge)
  have nk : H2 (((copyHeap s2.heap its).update (s2.heap.objs.size + 1) (Obj.mapSeq fun _ => (#[] : Array Value))).push (seqObj "tuple" its.toArray 0)).objs.size = none := I2.hok.fresh (by rw [hsz1]; exact Nat.le_succ_of_le hge)
  have I5 : Inv X pins σ H2 { s2 with heap := (((copyHeap s2.heap its).update (s2.heap.objs.size + 1) (Obj.mapSeq fun _ => (#[] : Array Value))).push (seqObj "tuple" its.toArray 0)).push (seqObj "list" #[] 0) } := I4.kept (t' := s2.toks) fun b o e => Heap.get?_push_of_some _ (Heap.get?_push_of_some _ e)
  have hka : (((copyHeap s2.heap its).update (s2.heap.objs.size + 1) (Obj.mapSeq fun _ => (#[] : Array Value))).push (seqObj "tuple" its.toArray 0)).objs.size ≠ s2.heap.objs.size + 1 := by
    rw [hsz1]
    exact Nat.ne_of_gt (Nat.lt_succ_of_lt (Heap.lt_size ca))
  have eR : EachIs (fun u x => ∃ v, RelV v u ∧ Rep X.K (ak F M2) H2 v (g x)) its bs := vals_each rv ra
  refine keyD_rest (kz := bs.map k) I5 mm2 la lk na nk hka (Heap.get?_push_of_some _ (Heap.get?_push_of_some _ ca1)) (Heap.get?_push_size _ rfl) (by rw [List.length_map, hil]) (by rw [hil]; exact hlen) hal hsk ?hu ?turn ?fin
  case hu =>
    intro d' hd'
    obtain ⟨x, hx, rfl⟩ := List.mem_map.mp hd'
    have h1 := hdp x hx
    have h2 := hr.un
    show X.A.units + 1 + 1 + _ < cLine
    omega
  case turn =>
    intro i u kd hu hkd Hi si Ii sti mmi
    rw [List.getElem?_map] at hkd
    cases qb : bs[i]? with
    | none => rw [qb] at hkd; cases hkd
    | some x =>
      rw [qb] at hkd
      have hkd : some (k x) = some kd := hkd
      cases hkd
      have hz2 : (u, x) ∈ its.zip bs := List.mem_of_getElem? (i := i) (by rw [List.getElem?_zip_eq_some]; exact ⟨hu, qb⟩)
      obtain ⟨v, rvu, rpv⟩ := eR.zip _ hz2
      have hrr : Room (kk + 1) X.A.in1.in1 := Room.in1 (Room.in1 hr)
      have hfr : X.A.in1.in1.frames = some X.stack := I2.ok.frames
      refine wpAny_mono (lam1_run (Q := fun d' M' => M' = M2 ∧ toPy d' = some (k x)) Ii mmi (sl2.step sti.fix) L hde hbd ho hb hrr hfr (rvf.step sti.fix) rvu (rpv.step sti.fix) (htb x (List.mem_of_getElem? qb) _ fun y hy => ⟨rfl, hy⟩)) (fun u' s' hh => ?_) fun _ _ h => h
      obtain ⟨v', H', d', M', a1, a2, a3, a4, a5, a6, a7, a8, rfl, a10⟩ := hh
      exact ⟨v', H', a1, a2, a3, a4, a5, a6, a7, d', a8, a10⟩
  case fin =>
    intro H6 s6 h' tk' cc out I6 st6 mm6 na6 nk6 kp oa ko
    refine ⟨rfl, ?_⟩
    have eo := keyedOut_each k ko eR
    obtain ⟨vs', q1, q2⟩ := each_vals eo
    have hol : out.length = its.length := ko.length (by rw [List.length_map, hil])
    have I7 := inv_sorted (tk := tk') I6 la lk na6 nk6 hka kp oa q1 (by rw [q1.length, hol, hil]; exact hlen)
    have hn := mm6.notin na6
    rw [List.mem_append, not_or] at hn
    exact ⟨.ref _, _, .ref _, _ :: M2, I7, rfl, ((st.trans st2).trans st6).trans (stp_cons na6), mm6.consL na6 (q2.step st6.fix), .ref _, hQ _ hn.1⟩
end
end L2.Dl

namespace L2.Dl
open PySem PySem.Spec PyProof.Rows
/-! ### a, b, c = x, y, z -/
def dPar3 (i j l : Nat) (ta : TAD) : TSD := fun E ds M => ta ds M (E.xd ds) fun xs M1 => match xs with | [x, y, z] => letK (((ds.set i (some x)).set j (some y)).set l (some z)) (fun ds' => E.nx ds' M1) | _ => False
@[simp ↓] theorem dPar3_eq (i j l : Nat) (ta : TAD) : ∀ E ds M, dPar3 i j l ta E ds M = (ta ds M (E.xd ds) fun xs M1 => match xs with | [x, y, z] => letK (((ds.set i (some x)).set j (some y)).set l (some z)) (fun ds' => E.nx ds' M1) | _ => False) := fun _ _ _ => rfl
section
variable {X : Cx} {pos : Pos}
theorem s_par3 {i j l : Nat} {x y z : Str} {a b c : Expr} {ta : TAD} {px py pz pt : Pos} {kt k2 pt2} (hc : X.calm = true) (hN : X.N.Nodup) (hi : X.N[i]? = some x) (hj : X.N[j]? = some y) (hl : X.N[l]? = some z) (hij : i ≠ j) (hil : i ≠ l) (hjl : j ≠ l)
    (hx : X.env.scope.names.lookup x = some .local) (hy : X.env.scope.names.lookup y = some .local) (hz : X.env.scope.names.lookup z = some .local) (ha : PAD X [a, b, c] ta)
    (hw : swappedStores [.Tuple [.Name x px, .Name y py, .Name z pz] kt pt] (.Tuple [a, b, c] k2 pt2) X.env = pure (some [x, y, z]))
    (hs : swapsWithSole [.Tuple [.Name x px, .Name y py, .Name z pz] kt pt] (.Tuple [a, b, c] k2 pt2) pos.line X.env = pure false := by rfl) :
    PSD X (.Assign [.Tuple [.Name x px, .Name y py, .Name z pz] kt pt] (.Tuple [a, b, c] k2 pt2) pos) (dPar3 i j l ta) := by
  refine PSD.of (fun W tk => ps_par3 hc hN hi hj hl hij hil hjl hx hy hz (ha.pa tk) hw hs) fun W F σ H ds M E hst kx ht => ?_
  refine ⟨F, ds, M, _, _, (hst.ex kx), ht, fun vs H1 xs M1 st mm rp q => ?_⟩
  match xs, q with
  | [x, y, z], q =>
    cases rp with
    | cons r0 t =>
    obtain ⟨v, w, rfl, r1, r2⟩ := repA2 t
    exact ⟨_, v, w, rfl, _, M1, st, ⟨mm, (((hst.to st mm).sl.put r0).put r1).put r2⟩, q⟩
end
end L2.Dl

namespace L2.Dl
open PySem PySem.Spec PyProof.Rows
/-! ### dicts by tuples of texts and ints; a key is a tuple that was made here, and it is let go behind its use -/
def keyTD : List D → Option (List Key)
  | [] => some []
  | d :: r => match keyD d, keyTD r with
    | some k, some ks => some (k :: ks)
    | _, _ => none
theorem keyT_rep {K : PySem.W.Frag} {B : List Addr} {H : Hp} : ∀ {vs : List V} {ds : List D} {ks : List Key}, RepA K B H vs ds → keyTD ds = some ks → vs = ks.map kV
  | _, _, ks, .nil, e => by cases e; rfl
  | _, _, ks, @RepA.cons _ _ _ v vs d ds r t, e => by
    unfold keyTD at e
    split at e
    · rename_i k ks' e1 e2
      cases e
      rw [key_rep r e1, keyT_rep t e2]
      rfl
    · cases e
/-- a new tuple -/
def dTupM (t : TAD) : TD := fun ds M Z Q => t ds M Z fun xs M1 => xs.length ≤ sizeLine ∧ ∀ p, p ∉ keys M1 → Q (.ref p) ((p, .tup xs) :: M1)
@[simp ↓] theorem dTupM_eq (t : TAD) : ∀ ds M Z Q, dTupM t ds M Z Q = (t ds M Z fun xs M1 => xs.length ≤ sizeLine ∧ ∀ p, p ∉ keys M1 → Q (.ref p) ((p, .tup xs) :: M1)) := fun _ _ _ _ => rfl
def putTD (kvs : List (List Key × D)) (k : List Key) (v : D) : List (List Key × D) :=
  if (kvs.any fun kv => decide (kv.1 = k)) = true then kvs.map (fun kv => if kv.1 = k then (kv.1, v) else kv) else kvs ++ [(k, v)]
def valTD (kvs : List (List Key × D)) (k : List Key) : Option D := (kvs.find? fun kv => decide (kv.1 = k)).map (·.2)
theorem RepF.appG {κ : Type} {K : PySem.W.Frag} {B : List Addr} {H : Hp} {vs ws : List (κ × V)} {ds es : List (κ × D)} (h : RepF K B H κ vs ds) (h2 : RepF K B H κ ws es) : RepF K B H κ (vs ++ ws) (ds ++ es) := by
  induction vs generalizing ds with
  | nil => cases h; exact h2
  | cons v vs ih =>
    cases h with
    | cons r t => exact .cons r (ih t)
theorem RepF.anyG {κ : Type} [DecidableEq κ] {K : PySem.W.Frag} {B : List Addr} {H : Hp} {vs : List (κ × V)} {ds : List (κ × D)} (h : RepF K B H κ vs ds) (k : κ) : (vs.any fun kv => decide (kv.1 = k)) = ds.any fun kv => decide (kv.1 = k) := by
  induction vs generalizing ds with
  | nil => cases h; rfl
  | cons v vs ih =>
    cases h with
    | cons r t => rw [List.any_cons, List.any_cons, ih t]
theorem RepF.mapG {κ : Type} [DecidableEq κ] {K : PySem.W.Frag} {B : List Addr} {H : Hp} {vs : List (κ × V)} {ds : List (κ × D)} (h : RepF K B H κ vs ds) {k : κ} {v : V} {d : D} (r : Rep K B H v d) : RepF K B H κ (vs.map fun kv => if kv.1 = k then (kv.1, v) else kv) (ds.map fun kv => if kv.1 = k then (kv.1, d) else kv) := by
  induction vs generalizing ds with
  | nil => cases h; exact .nil
  | cons w vs ih =>
    obtain ⟨f, w⟩ := w
    cases h with
    | cons r' t =>
      rw [List.map_cons, List.map_cons]
      by_cases e : f = k
      · simp only [e, if_true]
        exact .cons r (ih t)
      · simp only [e, if_false]
        exact .cons r' (ih t)
theorem RepF.putT {K : PySem.W.Frag} {B : List Addr} {H : Hp} {vs : List (List Key × V)} {ds : List (List Key × D)} (h : RepF K B H (List Key) vs ds) {k : List Key} {v : V} {d : D} (r : Rep K B H v d) : RepF K B H (List Key) (L2.putK vs k v) (putTD ds k d) := by
  unfold L2.putK putTD
  rw [h.anyG k]
  split
  · exact h.mapG r
  · exact h.appG (.cons r .nil)
theorem RepF.valT {K : PySem.W.Frag} {B : List Addr} {H : Hp} {vs : List (List Key × V)} {ds : List (List Key × D)} (h : RepF K B H (List Key) vs ds) (k : List Key) : (valTD ds k = none → valV vs k = none) ∧ ∀ d, valTD ds k = some d → ∃ v, valV vs k = some v ∧ Rep K B H v d := by
  unfold valTD valV
  induction vs generalizing ds with
  | nil => cases h; exact ⟨fun _ => rfl, fun d e => by cases e⟩
  | cons w vs ih =>
    obtain ⟨f, w⟩ := w
    cases h with
    | cons r' t =>
      rw [List.find?_cons, List.find?_cons]
      by_cases e : f = k
      · simp only [e, decide_true]
        exact ⟨fun z => by simp at z, fun d z => ⟨_, rfl, by simp at z; rw [← z]; exact r'⟩⟩
      · simp only [e, decide_false]
        exact ih t
theorem RepF.lenG {κ : Type} {K : PySem.W.Frag} {B : List Addr} {H : Hp} {vs : List (κ × V)} {ds : List (κ × D)} (h : RepF K B H κ vs ds) : vs.length = ds.length := by
  induction vs generalizing ds with
  | nil => cases h; rfl
  | cons v vs ih =>
    cases h with
    | cons r t => rw [List.length_cons, List.length_cons, ih t]
theorem valT_some {K : PySem.W.Frag} {B : List Addr} {H : Hp} {vs : List (List Key × V)} {ds : List (List Key × D)} (h : RepF K B H (List Key) vs ds) (k : List Key) : (valV vs k).isSome = (valTD ds k).isSome := by
  cases e : valTD ds k with
  | none => rw [(h.valT k).1 e]; rfl
  | some d =>
    obtain ⟨v, e2, _⟩ := (h.valT k).2 d e
    rw [e2]
    rfl
def dictT (M : MM) : D → Option (List (List Key × D))
  | .dT kvs => some kvs
  | .ref a => (match M.lookup a with | some (.dT kvs) => some kvs | _ => none)
  | _ => none
@[simp] theorem dictT_dT (M : MM) (kvs : List (List Key × D)) : dictT M (.dT kvs) = some kvs := rfl
theorem dictT_at {K : PySem.W.Frag} {F : List Addr} {H : Hp} {M : MM} {v : V} {d : D} {kvs : List (List Key × D)} (mm : RMM K F H M) (r : Rep K (ak F M) H v d) (e : dictT M d = some kvs) : ∃ a vs, v = .ref a ∧ H a = some (.dT vs) ∧ RepF K (ak F M) H (List Key) vs kvs := by
  cases d with
  | dT fs =>
    cases e
    cases r with
    | dT h1 h2 r => exact ⟨_, _, rfl, h2, r⟩
  | ref a =>
    cases r
    have e : (match M.lookup a with | some (.dT kvs) => some kvs | _ => none) = some kvs := e
    split at e
    · rename_i q
      cases e
      obtain ⟨vs, h1, h2⟩ := mm.get q
      exact ⟨a, vs, rfl, h1, h2⟩
    · cases e
  | _ => cases e
/-- the key at b -/
def keyAt (M : MM) : D → Option (Addr × List Key)
  | .ref b => (match M.lookup b with | some (.tup xs) => (keyTD xs).map fun k => (b, k) | _ => none)
  | _ => none
theorem keyAt_ok {K : PySem.W.Frag} {F : List Addr} {H : Hp} {M : MM} {v : V} {d : D} {b : Addr} {k : List Key} (mm : RMM K F H M) (r : Rep K (ak F M) H v d) (e : keyAt M d = some (b, k)) : v = .ref b ∧ H b = some (.tup (k.map kV)) := by
  cases d with
  | ref a =>
    cases r
    have e : (match M.lookup a with | some (.tup xs) => (keyTD xs).map fun k => (a, k) | _ => none) = some (b, k) := e
    split at e
    · rename_i xs q
      obtain ⟨k', e1, e2⟩ := Option.map_eq_some_iff.mp e
      cases e2
      obtain ⟨vs, h1, h2⟩ := mm.get q
      rw [keyT_rep h2 e1] at h1
      exact ⟨rfl, h1⟩
    · cases e
  | _ => cases e
theorem kq_drop {K : PySem.W.Frag} {F : List Addr} {H : Hp} {M : MM} {Q : QD} {QV : VK} {b : Addr} {v : V} {d : D} (k : KQ K F H M Q QV) (mm : RMM K F H M) (r : Rep K (ak F M) H v d) (q : Q d (drop M b)) : QV v H := k v H d (drop M b) stp_drop (mm.drop b) (r.step stp_drop.fix) q
/-- y in d -/
def dInT (g : Bool → Bool) : R2D := fun x y M Q => optK (dictT M y) fun kvs => optK (keyAt M x) fun bk => Q (.bl (g (valTD kvs bk.2).isSome)) (drop M bk.1)
@[simp ↓] theorem dInT_eq (g : Bool → Bool) : ∀ x y M Q, dInT g x y M Q = (optK (dictT M y) fun kvs => optK (keyAt M x) fun bk => Q (.bl (g (valTD kvs bk.2).isSome)) (drop M bk.1)) := fun _ _ _ _ => rfl
/-- d[y] -/
def dGetT : R2D := fun x y M Q => optK (dictT M x) fun kvs => optK (keyAt M y) fun bk => optK (valTD kvs bk.2) fun v => Q v (drop M bk.1)
@[simp ↓] theorem dGetT_eq : ∀ x y M Q, dGetT x y M Q = (optK (dictT M x) fun kvs => optK (keyAt M y) fun bk => optK (valTD kvs bk.2) fun v => Q v (drop M bk.1)) := fun _ _ _ _ => rfl
def dNewT : TD := fun _ M _ Q => ∀ p, p ∉ keys M → Q (.ref p) ((p, .dT []) :: M)
@[simp ↓] theorem dNewT_eq : ∀ ds M Z Q, dNewT ds M Z Q = (∀ p, p ∉ keys M → Q (.ref p) ((p, .dT []) :: M)) := fun _ _ _ _ => rfl
/-- d[k] = v -/
def dPutT (td ty tv : TD) : TSD := fun E ds M => tv ds M (E.xd ds) fun v M1 => td ds M1 (E.xd ds) fun x M2 => ty ds M2 (E.xd ds) fun y M3 => match x with
  | .ref a => (match M3.lookup a with
    | some (.dT kvs) => kvs.length < sizeLine ∧ optK (keyAt M3 y) fun bk => E.nx ds (drop (put M3 a (.dT (putTD kvs bk.2 v))) bk.1)
    | _ => False)
  | _ => False
@[simp ↓] theorem dPutT_eq (td ty tv : TD) : ∀ E ds M, dPutT td ty tv E ds M = (tv ds M (E.xd ds) fun v M1 => td ds M1 (E.xd ds) fun x M2 => ty ds M2 (E.xd ds) fun y M3 => match x with
  | .ref a => (match M3.lookup a with
    | some (.dT kvs) => kvs.length < sizeLine ∧ optK (keyAt M3 y) fun bk => E.nx ds (drop (put M3 a (.dT (putTD kvs bk.2 v))) bk.1)
    | _ => False)
  | _ => False) := fun _ _ _ => rfl
section
variable {X : Cx} {o i value : Expr} {es : List Expr} {pos pos' : Pos} {td ty tv : TD} {t : TAD}
theorem d_tupM {k : Nat} (h : PAD X es t) : PD X (.Tuple es k pos) (dTupM t) := by
  refine PD.of (fun W tk => pe_tup (h.pa tk)) fun W F σ H ds M Z Q hs ht => ?_
  refine ⟨F, ds, M, _, _, hs, ht, fun vs H1 xs M1 st mm rp q => ⟨by rw [rp.len]; exact q.1, fun p hp => ?_⟩⟩
  have hn := mm.notin hp
  rw [List.mem_append, not_or] at hn
  exact ⟨_, (p, .tup xs) :: M1, st.trans (stp_cons hp), mm.cons hp ⟨vs, upd_same, rp.step (stp_cons hp).fix⟩, .ref p, q.2 p hn.1⟩
theorem d_newT : PD X (.Dict [] [] pos) dNewT := by
  refine PD.of (fun W tk => pe_dnewT) fun W F σ H ds M Z Q hs ht => fun p hp => ?_
  have hn := hs.mm.notin hp
  rw [List.mem_append, not_or] at hn
  exact ⟨.ref p, (p, .dT []) :: M, stp_cons hp, hs.mm.cons hp ⟨[], upd_same, .nil⟩, .ref p, ht p hn.1⟩
theorem c_inT (hu : X.A.units + 1 < cLine) : OpD X (compareOp .In) (dInT id) := by
  refine opD_own fun pins s σ H x y v u QV I rx ry hq => ?_
  obtain ⟨F, M, dx, dy, Q, mm, rpx, rpy, h0, kq⟩ := hq
  obtain ⟨kvs, e1, h0⟩ := optK_ex (show optK (dictT M dy) _ from h0)
  obtain ⟨⟨b, k⟩, e2, h0⟩ := optK_ex h0
  obtain ⟨a, vs, rfl, h1, h2⟩ := dictT_at mm rpy e1
  obtain ⟨rfl, hb⟩ := keyAt_ok mm rpx e2
  obtain rfl : u = Value.ref a := ry
  refine d_in hu I (DGet.t h1 hb) rx fun s3 I3 => ⟨.bl (valV vs k).isSome, H, I3, rfl, ?_⟩
  rw [valT_some h2]
  exact kq_drop kq mm (.bl _) h0
theorem c_notinT (hu : X.A.units + 1 < cLine) : OpD X (compareOp .NotIn) (dInT not) := by
  refine opD_own fun pins s σ H x y v u QV I rx ry hq => ?_
  obtain ⟨F, M, dx, dy, Q, mm, rpx, rpy, h0, kq⟩ := hq
  obtain ⟨kvs, e1, h0⟩ := optK_ex (show optK (dictT M dy) _ from h0)
  obtain ⟨⟨b, k⟩, e2, h0⟩ := optK_ex h0
  obtain ⟨a, vs, rfl, h1, h2⟩ := dictT_at mm rpy e1
  obtain ⟨rfl, hb⟩ := keyAt_ok mm rpx e2
  obtain rfl : u = Value.ref a := ry
  refine d_notIn hu I (DGet.t h1 hb) rx fun s3 I3 => ⟨.bl (!(valV vs k).isSome), H, I3, rfl, ?_⟩
  rw [valT_some h2]
  exact kq_drop kq mm (.bl _) h0
theorem d_getT (hu : X.A.units + 1 < cLine) (ho : PD X o td) (hi : PD X i ty) (hs : NoSl i := by exact fun _ _ => rfl) : PD X (.Subscript o i pos) (dOp dGetT td ty) := by
  refine PD.of (fun W tk => pe_dget hu (ho.pe tk) (hi.pe tk) hs) fun W F σ H ds M Z Q hst ht => ?_
  refine ⟨F, ds, M, _, _, hst, ht, fun v H1 d M1 st mm rp q => ?_⟩
  refine ⟨F, ds, M1, _, _, hst.to st mm, q, fun v2 H2 d2 M2 st2 mm2 rp2 q2 => ?_⟩
  obtain ⟨kvs, e1, q2⟩ := optK_ex (show optK (dictT M2 d) _ from q2)
  obtain ⟨⟨b, k⟩, e2, q2⟩ := optK_ex q2
  obtain ⟨dv, e3, q2⟩ := optK_ex q2
  obtain ⟨a, vs, rfl, h1, h2⟩ := dictT_at mm2 (rp.step st2.fix) e1
  obtain ⟨rfl, hb⟩ := keyAt_ok mm2 rp2 e2
  obtain ⟨w, e4, r4⟩ := (h2.valT k).2 dv e3
  refine ⟨a, w, rfl, ?_, kq_drop (KQ.eq.on (st.trans st2)) mm2 r4 q2⟩
  rw [← e4]
  exact DGet.t h1 hb
theorem s_dputT (hu : X.A.units + 1 < cLine) (ho : PD X o td) (hi : PD X i ty) (hv : PD X value tv) (hs : swapsWith value (some (.Subscript o i pos')) pos.line X.env = pure false := by rfl) : PSD X (.Assign [.Subscript o i pos'] value pos) (dPutT td ty tv) := by
  refine PSD.of (fun W tk => ps_dput hu (ho.pe tk) (hi.pe tk) (hv.pe tk) hs) fun W F σ H ds M E hst kx ht => ?_
  have hex := hst.ex kx
  refine ⟨F, ds, M, _, _, hex, ht, fun v H1 d M1 st mm rp q => ?_⟩
  refine ⟨F, ds, M1, _, _, hex.to st mm, q, fun v2 H2 d2 M2 st2 mm2 rp2 q2 => ?_⟩
  refine ⟨F, ds, M2, _, _, (hex.to st mm).to st2 mm2, q2, fun v3 H3 d3 M3 st3 mm3 rp3 q3 => ?_⟩
  cases d2 with
  | ref a =>
    cases rp2
    dsimp only at q3
    cases hl : M3.lookup a with
    | none => rw [hl] at q3; exact q3.elim
    | some mo =>
      rw [hl] at q3
      cases mo with
      | dT kvs =>
        obtain ⟨hz, q3⟩ := q3
        obtain ⟨⟨b, k⟩, e2, q3⟩ := optK_ex q3
        obtain ⟨vs, h1, h2⟩ := mm3.get hl
        obtain ⟨rfl, hb⟩ := keyAt_ok mm3 rp3 e2
        have rv := (rp.step st2.fix).step st3.fix
        have hk : a ∈ keys M3 := lookup_key hl
        have r := h2.putT (k := k) rv
        have stw : Stp H3 (keys M3) (upd H3 a (.dT (L2.putK vs k v))) (keys M3) := stp_put hk
        have mmp : RMM X.K F (upd H3 a (.dT (L2.putK vs k v))) (put M3 a (.dT (putTD kvs k d))) := mm3.put hk ⟨_, upd_same, r.step stw.fix⟩
        have eak : ak F (put M3 a (.dT (putTD kvs k d))) = ak F M3 := by unfold ak; rw [keys_put]
        have slp : RSl X.K (ak F (put M3 a (.dT (putTD kvs k d)))) (upd H3 a (.dT (L2.putK vs k v))) σ ds := by
          rw [eak]
          exact (((hst.sl.step st.fix).step st2.fix).step st3.fix).step stw.fix
        refine ⟨a, _, rfl, DPut.t h1 hb (by rw [h2.lenG]; exact hz), ds, drop (put M3 a (.dT (putTD kvs k d))) b, ?_, ⟨mmp.drop b, slp.step stp_drop.fix⟩, q3⟩
        have stp2 : Stp (upd H3 a (.dT (L2.putK vs k v))) (keys (put M3 a (.dT (putTD kvs k d)))) (upd H3 a (.dT (L2.putK vs k v))) (keys (drop (put M3 a (.dT (putTD kvs k d))) b)) := stp_drop
        rw [keys_put] at stp2
        exact (((st.trans st2).trans st3).trans stw).trans stp2
      | _ => exact q3.elim
  | _ => exact (show False from q3).elim
end
theorem valT_put (kvs : List (List Key × D)) (k j : List Key) (v : D) : valTD (putTD kvs k v) j = if j = k then some v else valTD kvs j := by
  unfold valTD putTD
  by_cases h : (kvs.any fun kv => decide (kv.1 = k)) = true
  · rw [if_pos h]
    induction kvs with
    | nil => simp at h
    | cons a r ih =>
      rw [List.map_cons, List.find?_cons, List.find?_cons]
      by_cases e : a.1 = k
      · simp only [e, if_true]
        by_cases ej : j = k
        · simp [ej]
        · have ek : ¬ k = j := fun z => ej z.symm
          simp only [ek, decide_false, ej, if_false]
          by_cases h2 : (r.any fun kv => decide (kv.1 = k)) = true
          · have := ih h2
            rw [this, if_neg ej]
          · have : (r.map fun kv => if kv.1 = k then (kv.1, v) else kv) = r := by
              have hn : ∀ kv ∈ r, kv.1 ≠ k := fun kv hk z => h2 (List.any_eq_true.mpr ⟨kv, hk, by simp [z]⟩)
              conv => rhs; rw [← List.map_id r]
              exact List.map_congr_left fun kv hk => by rw [if_neg (hn kv hk)]; rfl
            rw [this]
      · simp only [e, if_false]
        have h2 : (r.any fun kv => decide (kv.1 = k)) = true := by simpa [e] using h
        by_cases ej : a.1 = j
        · have : ¬ j = k := fun z => e (ej.trans z)
          simp [ej, this]
        · simp only [ej, decide_false]
          exact ih h2
  · rw [if_neg h, List.find?_append]
    by_cases ej : j = k
    · subst ej
      have : kvs.find? (fun kv => decide (kv.1 = j)) = none := by
        rw [List.find?_eq_none]
        intro kv hk z
        exact h (List.any_eq_true.mpr ⟨kv, hk, z⟩)
      rw [this]
      simp
    · rw [if_neg ej]
      have : ¬ k = j := fun z => ej z.symm
      simp [this]
theorem putT_len (kvs : List (List Key × D)) (k : List Key) (v : D) : (putTD kvs k v).length ≤ kvs.length + 1 := by
  unfold putTD
  split
  · simp
  · simp
/-! ### sorted(xs), xs alike plain data -/
def dSortP : RCD := fun xs M Q => match xs with
  | [d] => optK (lstOf M d) fun ds => ∃ (β : Type) (bs : List β) (g : β → D) (k : β → PyData), ds = bs.map g ∧ (∀ b ∈ bs, toPy (g b) = some (k b)) ∧ PySem.W.AllAlike (bs.map k) ∧ PySem.W.Sortable (bs.map k) ∧ (∀ b ∈ bs, (k b).depth ≤ 60) ∧ bs.length ≤ sizeLine ∧ Q (.lst ((bs.mergeSort (PySem.W.dataLe false k)).map g)) M
  | _ => False
@[simp ↓] theorem dSortP_eq : ∀ xs M Q, dSortP xs M Q = (match xs with
  | [d] => optK (lstOf M d) fun ds => ∃ (β : Type) (bs : List β) (g : β → D) (k : β → PyData), ds = bs.map g ∧ (∀ b ∈ bs, toPy (g b) = some (k b)) ∧ PySem.W.AllAlike (bs.map k) ∧ PySem.W.Sortable (bs.map k) ∧ (∀ b ∈ bs, (k b).depth ≤ 60) ∧ bs.length ≤ sizeLine ∧ Q (.lst ((bs.mergeSort (PySem.W.dataLe false k)).map g)) M
  | _ => False) := fun _ _ _ => rfl
section
variable {X : Cx}
open PySem.W in
theorem k_sortedP (hu : X.A.units + 64 < cLine) : CallD X (.builtin "sorted") dSortP := by
  refine ⟨fun vs H QV => ∃ F M xs Q, RMM X.K F H M ∧ RepA X.K (ak F M) H vs xs ∧ dSortP xs M Q ∧ KQ X.K F H M Q QV, ?_, fun F H M vs xs Q QV mm rp hr k => ⟨F, M, xs, Q, mm, rp, hr, k⟩⟩
  intro pins s σ H vs us QV I r h
  obtain ⟨F, M, xs, Q, mm, rp, hr, kq⟩ := h
  unfold dSortP at hr
  split at hr
  · rename_i d
    obtain ⟨ds, e1, hr⟩ := optK_ex hr
    obtain ⟨β, bs, g, k, rfl, hk, hal, hsk, hdp, hlen, q⟩ := hr
    obtain ⟨v, rfl, rv⟩ := repA1 rp
    obtain ⟨a, vl, rfl, sq, ra⟩ := lstOf_sq mm rv e1
    rw [Vals.ref1 r]
    obtain ⟨its, rvs, hl, hz⟩ := I.list sq
    have eR : EachIs (fun u x => ∃ v, RelV v u ∧ Rep X.K (ak F M) H v (g x)) its bs := vals_each rvs ra
    have er : EachIs (fun u b => ∃ as, Reads s.heap u (k b) as) its bs := (each_mem eR).mono fun u b ⟨⟨v, h1, h2⟩, hb⟩ => Dp.reads I (k b) v u (h2.dp (hk b hb)) h1
    refine sorted_data hl.isList eR er hal hsk hlen (fun b hb => by have := hdp b hb; omega) fun out ho eo => ?_
    obtain ⟨vs', q1, q2⟩ := each_vals eo
    obtain ⟨ep, he'⟩ := PyProof.Rows.sortedAll_at s.heap its (List.toArray out)
    have hlen' : vs'.length ≤ sizeLine := by rw [q1.length, ho]; exact hlen
    exact ⟨.ref _, upd H (s.heap.objs.size + 1) (.lst vs'), I.laid (t' := s.toks) (fun _ _ => PyProof.Rows.sortedAll_old) (Nat.le_succ _) ⟨hlen', out, ep, q1, he'⟩, rfl, kq.newL mm q2 q _ (I.hok.fresh (Nat.le_succ _))⟩
  · exact hr.elim
end
theorem blkOk_in {N : List Str} {sc0 scB scope : Scope} {own : List (Str × Nat)} (h : blkC N (relS sc0 scB) scope own = true) : BlkOk N (relS sc0 scB) scope own := blkOk_by h
end L2.Dl

namespace PySem.SeqAt
open AutoSeq1 (wpAny_loadPart')
open MeetsSeq MeetsSeq2 MeetsSeq3 SeqRoads2
/-- the list at l holds N things; each is asked; P goes on holding -/
def AskAll (prog : Program) (w : World) (A : Around) (l : Addr) (x : Value) (N : Nat) (e : Nat → Bool) (P : Shared → Prop) : Prop :=
  ∀ s, P s → ∃ items : Array Value, s.heap.IsList l items ∧ items.size = N ∧ ∀ j (h : j < items.size) (E : Value → Shared → Prop) (Q : Bool → Shared → Prop), (∀ s', P s' → Q (e j) s') → wpAny (model prog w) A.in1 (eqBool items[j] x) Q E s
theorem contains_loopIn {prog : Program} {w : World} (l : Addr) (x : Value) (N : Nat) (e : Nat → Bool) (P : Shared → Prop) (k : Nat) :
    ∀ i : Nat, N - i = k → MeetsIn prog w (Builtin.«list.__contains__.loop» ⟨[.ref l, x, rawInt i], []⟩)
      (fun A R s => P s ∧ AskAll prog w A l x N e P ∧ ∀ s', P s' → R (.ok (.ret (.bool (((List.range N).drop i).any e)))) s') := by
  induction k with
  | zero =>
    intro i hk A R s h
    obtain ⟨hp, g, d, tk, os⟩ := s; obtain ⟨hP, hA, h⟩ := h
    obtain ⟨items, hl, hN, _⟩ := hA _ hP
    obtain ⟨⟨cls, dd, data, sl⟩, ho, hc, n, hd⟩ := id hl
    simp only at hc hd
    subst hc hd
    wp_walk using wpAny_loadPart' ho
    have hi : items[((i : Nat) : Int).toNat]? = none := by simp; omega
    have hd : (List.range N).drop i = [] := by simp; omega
    rw [hd] at h
    rw [hi]
    wp_walk
    exact h _ hP
  | succ k ih =>
    intro i hk A R s h
    obtain ⟨hp, g, d, tk, os⟩ := s; obtain ⟨hP, hA, h⟩ := h
    obtain ⟨items, hl, hN, hq⟩ := hA _ hP
    obtain ⟨⟨cls, dd, data, sl⟩, ho, hc, n, hd⟩ := id hl
    simp only at hc hd
    subst hc hd
    wp_walk using wpAny_loadPart' ho
    have hlt : i < items.size := by omega
    have hlt' : i < N := by omega
    have hi : items[((i : Nat) : Int).toNat]? = some items[i] := by simp [hlt]
    have hd : (List.range N).drop i = i :: (List.range N).drop (i + 1) := by simp [List.drop_eq_getElem_cons, hlt']
    rw [hd, List.any_cons] at h
    rw [hi]
    refine wpAny_bind (hq i hlt _ _ fun s' hP' => ?_)
    obtain ⟨hp', g', d', tk', os'⟩ := s'
    cases hb : e i with
    | true =>
      rw [hb] at h
      wp_walk
      exact h _ hP'
    | false =>
      rw [hb] at h
      have hc : ((i : Int) + 1) = ((i + 1 : Nat) : Int) := by push_cast; rfl
      wp_walk
      rw [hc]
      exact ⟨plainId_quiet plain_contains_loop _, codeAny_builtin entry_contains_loop (by
        rw [Around.under_plainId plain_contains_loop _]
        exact ih (i + 1) (by omega) A R _ ⟨hP', hA, by simpa using h⟩)⟩
theorem list_containsIn {prog : Program} {w : World} (l : Addr) (x : Value) (N : Nat) (e : Nat → Bool) (P : Shared → Prop) :
    MeetsIn prog w (Builtin.«list.__contains__» ⟨[.ref l, x], []⟩) (fun A R s => P s ∧ AskAll prog w A l x N e P ∧ ∀ s', P s' → R (.ok (.ret (.bool ((List.range N).any e)))) s') := by
  intro A R s h
  obtain ⟨hp, g, d, tk, os⟩ := s; obtain ⟨hP, hA, h⟩ := h
  obtain ⟨items, hl, hN, _⟩ := hA _ hP
  obtain ⟨⟨cls, dd, data, sl⟩, ho, hc, n, hd⟩ := id hl
  simp only at hc hd
  subst hc hd
  wp_walk using wpAny_loadPart' ho
  exact ⟨plainId_quiet plain_contains_loop _, codeAny_builtin entry_contains_loop (by
    rw [Around.under_plainId plain_contains_loop _]
    exact contains_loopIn l x N e P _ 0 rfl A R _ ⟨hP, hA, by simpa using h⟩)⟩
theorem contains_listIn {prog : Program} {w : World} {A : Around} {s : Shared} {E : Value → Shared → Prop} {l : Addr} {x : Value} {N : Nat} (e : Nat → Bool) (P : Shared → Prop) {Q : Bool → Shared → Prop} (hP : P s) (hA : AskAll prog w A l x N e P)
    (h : ∀ s', P s' → Q ((List.range N).any e) s') : wpAny (model prog w) A (contains (.ref l) x) Q E s := by
  obtain ⟨items, hl, hN, _⟩ := hA _ hP
  obtain ⟨⟨cls, dd, data, sl⟩, ho, hc, n, hd⟩ := id hl
  simp only at hc hd
  subst hc hd
  refine wpAny_contains_slot ⟨_, ho, rfl⟩ F.slot_list_contains (wpAny_mono (call_meetsIn F.slot_list_contains ⟨_, ho, rfl⟩ F.entry_list_contains (F.args_list_contains_2 _ _) (list_containsIn (prog := prog) (w := w) l x N e P) (Q := fun v s' => ∃ b, v = .bool b ∧ Q b s') ⟨hP, hA, fun s' z => ⟨_, rfl, h s' z⟩⟩) (fun v s' hv => ?_) fun _ _ e => e)
  obtain ⟨b, rfl, hq⟩ := hv
  exact wpAny_truthy_bool hq
theorem in_listIn {prog : Program} {w : World} {A : Around} {s : Shared} {E : Value → Shared → Prop} {l : Addr} {x : Value} {N : Nat} (e : Nat → Bool) (P : Shared → Prop) {Q : Value → Shared → Prop} (hP : P s) (hA : AskAll prog w A l x N e P)
    (h : ∀ s', P s' → Q (.bool ((List.range N).any e)) s') : wpAny (model prog w) A (compareOp .In x (.ref l)) Q E s := by
  show wpAny _ A (do return .bool (← contains (.ref l) x)) Q E s
  exact wpAny_bind (contains_listIn e P hP hA fun s' z => wpAny_pure (h s' z))
theorem notIn_listIn {prog : Program} {w : World} {A : Around} {s : Shared} {E : Value → Shared → Prop} {l : Addr} {x : Value} {N : Nat} (e : Nat → Bool) (P : Shared → Prop) {Q : Value → Shared → Prop} (hP : P s) (hA : AskAll prog w A l x N e P)
    (h : ∀ s', P s' → Q (.bool (!((List.range N).any e))) s') : wpAny (model prog w) A (compareOp .NotIn x (.ref l)) Q E s := by
  show wpAny _ A (do return .bool (!(← contains (.ref l) x))) Q E s
  exact wpAny_bind (contains_listIn e P hP hA fun s' z => wpAny_pure (h s' z))
end PySem.SeqAt
namespace L2.Dl
open PySem PySem.Spec PyProof.Rows
/-! ### x in xs, where xs has objects with an own __eq__ -/
def atomD : D → Bool
  | .non | .bl _ | .int _ | .str _ => true
  | _ => false
def atomsF (fs : List (Str × D)) : Bool := fs.all fun f => atomD f.2
@[simp] theorem atomsF_nil : atomsF [] = true := rfl
@[simp] theorem atomsF_cons (n : Str) (d : D) (r : List (Str × D)) : atomsF ((n, d) :: r) = (atomD d && atomsF r) := rfl
@[simp] theorem atomD_non : atomD .non = true := rfl
@[simp] theorem atomD_bl (b : Bool) : atomD (.bl b) = true := rfl
@[simp] theorem atomD_int (b : Int) : atomD (.int b) = true := rfl
@[simp] theorem atomD_str (b : Str) : atomD (.str b) = true := rfl
/-- an object of C with plain fields -/
def own1D (C : Str) : D → Bool
  | .obj C' fs => decide (C' = C) && atomsF fs
  | _ => false
theorem own1D_obj (C : Str) (fs : List (Str × D)) : own1D C (.obj C fs) = atomsF fs := by simp [own1D]
def own1X (C : Str) : D → Bool
  | .obj C' fs => decide (C' = C) && atomsF fs
  | .non => true
  | _ => false
@[simp] theorem own1X_non (C : Str) : own1X C .non = true := rfl
theorem own1X_of {C : Str} {d : D} (h : own1D C d = true) : own1X C d = true := by
  cases d <;> first | exact h | cases h
theorem atom_det {K : PySem.W.Frag} {B : List Addr} {H : Hp} {v : V} {d d' : D} (r : Rep K B H v d) (r' : Rep K B H v d') (h : atomD d = true) (h' : atomD d' = true) : d = d' := by
  cases d <;> first | (cases r; cases d' <;> first | (cases r'; rfl) | (cases h'; done) | (cases r'; done)) | (cases h; done)
theorem atomsF_det {K : PySem.W.Frag} {B : List Addr} {H : Hp} : ∀ {vs : List (Str × V)} {ds ds' : List (Str × D)}, RepF K B H Str vs ds → RepF K B H Str vs ds' → atomsF ds = true → atomsF ds' = true → ds = ds'
  | _, _, _, .nil, .nil, _, _ => rfl
  | _, _, _, .cons r t, .cons r' t', h, h' => by
    have h := Bool.and_eq_true_iff.mp h
    have h' := Bool.and_eq_true_iff.mp h'
    rw [atom_det r r' h.1 h'.1, atomsF_det t t' h.2 h'.2]
theorem flat_det {K : PySem.W.Frag} {B : List Addr} {H : Hp} {C : Str} {v : V} {d d' : D} (r : Rep K B H v d) (r' : Rep K B H v d') (h : own1D C d = true) (h' : own1X C d' = true) : d = d' := by
  cases d with
  | obj C1 fs =>
    have h := Bool.and_eq_true_iff.mp h
    obtain rfl : C1 = C := of_decide_eq_true h.1
    cases d' with
    | obj C2 fs' =>
      have h' := Bool.and_eq_true_iff.mp h'
      obtain rfl : C2 = C1 := of_decide_eq_true h'.1
      cases r with
      | obj a1 a2 a3 =>
        generalize hv : V.ref _ = v0 at r'
        generalize hd : D.obj _ fs' = d0 at r'
        cases r' with
        | obj b1 b2 b3 =>
          cases hv
          injection hd with e1 e2
          subst e1 e2
          rw [a2] at b2
          injection b2 with b2
          injection b2 with _ _ b2
          subst b2
          rw [atomsF_det a3 b3 h.2 h'.2]
        | _ => cases hd
    | non =>
      cases r with
      | obj a1 a2 a3 => cases r'
    | _ => cases h'
  | _ => cases h
/-- what each compare says -/
def inGo (C : Str) (sp : SpS) (e : D → D → Bool) (x : D) (M : MM) (ys : List D) : Prop := e x x = true ∧ ∀ y ∈ ys, own1D C y = true ∧ ask sp [y, x] [] M X0 fun d M' => d = .bl (e y x) ∧ M' = M
/-- the list's things, wherever it is -/
def seqM (M : MM) : D → Option (List D)
  | .lst xs => some xs
  | .ref a => (match M.lookup a with | some (.lst xs) => some xs | _ => none)
  | _ => none
@[simp] theorem seqM_lst (M : MM) (xs : List D) : seqM M (.lst xs) = some xs := rfl
theorem seqM_ref (M : MM) (a : Addr) : seqM M (.ref a) = (match M.lookup a with | some (.lst xs) => some xs | _ => none) := rfl
theorem seqM_at {K : PySem.W.Frag} {F : List Addr} {H : Hp} {M : MM} {v : V} {d : D} {xs : List D} (mm : RMM K F H M) (r : Rep K (ak F M) H v d) (e : seqM M d = some xs) : ∃ a vs, v = .ref a ∧ H a = some (.lst vs) ∧ RepA K (ak F M) H vs xs := by
  cases d with
  | lst fs =>
    cases e
    cases r with
    | lst h r => exact ⟨_, _, rfl, h.2, r⟩
  | ref a =>
    cases r
    have e : (match M.lookup a with | some (.lst kvs) => some kvs | _ => none) = some xs := e
    split at e
    · rename_i q
      cases e
      obtain ⟨vs, h1, h2⟩ := mm.get q
      exact ⟨a, vs, rfl, h1, h2⟩
    · cases e
  | _ => cases e
def dInO (C : Str) (os : List Str) (sp : SpS) (e : D → D → Bool) (g : Bool → Bool) : R2D := fun x y M Q => own1X C x = true ∧ optK (kdX os [] x M) fun _ => optK (seqM M y) fun ys => inGo C sp e x M ys ∧ Q (.bl (g (ys.any fun y => e y x))) M
@[simp ↓] theorem dInO_eq (C : Str) (os : List Str) (sp : SpS) (e : D → D → Bool) (g : Bool → Bool) : ∀ x y M Q, dInO C os sp e g x y M Q = (own1X C x = true ∧ optK (kdX os [] x M) fun _ => optK (seqM M y) fun ys => inGo C sp e x M ys ∧ Q (.bl (g (ys.any fun y => e y x))) M) := fun _ _ _ _ => rfl
section
variable {X : Cx} {C : Str} {g : Addr} {k : Nat} {sp : SpS} {os : List Str}
theorem any_range {α : Type} (ys : List α) (f : α → Bool) : ((List.range ys.length).any fun j => (ys[j]?.map f).getD false) = ys.any f := by
  rw [Bool.eq_iff_iff, List.any_eq_true, List.any_eq_true]
  constructor
  · rintro ⟨j, hj, h⟩
    have hj := List.mem_range.mp hj
    rw [List.getElem?_eq_getElem hj] at h
    exact ⟨_, List.getElem_mem hj, h⟩
  · rintro ⟨y, hy, h⟩
    obtain ⟨j, hj, rfl⟩ := List.getElem_of_mem hy
    exact ⟨j, List.mem_range.mpr hj, by rw [List.getElem?_eq_getElem hj]; exact h⟩
theorem askAll_own {e : D → D → Bool} {pins : List (Addr × Obj)} {σ : L2.St} {H : Hp} {s : Shared} {F : List Addr} {M : MM} {dx dl : D} {x : V} {u : Value} {ys : List D} {c : KD} {l : Addr} (q : EqF X.K C os g) (Fn : FnS X.prog X.w X.K X.mg X.base k g [] sp) (hr : Room (k + 1) X.A)
    (I : Inv X pins σ H s) (mm : RMM X.K F H M) (rpx : Rep X.K (ak F M) H x dx) (rpy : Rep X.K (ak F M) H (.ref l) dl) (rx : RelV x u) (hf : own1X C dx = true) (hk : kdX os [] dx M = some c) (hs : seqM M dl = some ys) (hg : inGo C sp e dx M ys) :
    PySem.SeqAt.AskAll X.prog X.w X.A l u ys.length (fun j => (ys[j]?.map fun y => e y dx).getD false) (fun s' => ∃ H', Inv X pins σ H' s' ∧ RMM X.K F H' M ∧ Stp H (keys M) H' (keys M)) := by
  rintro s1 ⟨H1, I1, mm1, st1⟩
  have rpl := rpy.step st1.fix
  have rpx1 := rpx.step st1.fix
  obtain ⟨a, vs, e0, hl, ra⟩ := seqM_at mm1 rpl hs
  cases e0
  obtain ⟨its, h1, h2, h3⟩ := I1.list (.inl (.inl hl))
  have hlen : its.length = ys.length := by rw [← h1.length, ra.len]
  refine ⟨its.toArray, h2.isList, by simpa using hlen, ?_⟩
  intro j hj E Q hQ
  have hj2 : j < its.length := by simpa using hj
  have hj' : j < ys.length := by omega
  have hQ : ∀ s', (∃ H', Inv X pins σ H' s' ∧ RMM X.K F H' M ∧ Stp H (keys M) H' (keys M)) → Q (e ys[j] dx) s' := by
    simp only [List.getElem?_eq_getElem hj'] at hQ
    exact hQ
  obtain ⟨hfl, hask⟩ := hg.2 ys[j] (List.getElem_mem hj')
  obtain ⟨v, ev, rpy⟩ := ra.get (List.getElem?_eq_getElem hj')
  obtain ⟨y, ey, rv⟩ := h1.get ev
  have ey : its.toArray[j] = y := by
    rw [List.getElem?_eq_getElem hj2] at ey
    cases ey
    simp
  rw [ey]
  generalize hd : ys[j] = dy at hfl hask rpy hQ
  cases dy with
  | obj C1 fs =>
    obtain rfl : C1 = C := of_decide_eq_true (Bool.and_eq_true_iff.mp hfl).1
    obtain ⟨a, od, ox, rfl, rfl, J⟩ := obj_at I1 mm1 rpy rv (show clsOf (.obj C1 fs) M = some (C1, fs) from rfl)
    obtain ⟨ty, nf⟩ := right_ty q I1 mm1 rpx1 rx hk
    obtain ⟨m, hF⟩ := I1.fr
    unfold eqBool
    refine wpAny_holding ?_
    refine wpAny_ite_split (fun hab => ?_) (fun _ => ?_)
    · have hab := eq_of_beq hab
      subst hab
      have ex : x = .ref a := by
        cases dx with
        | obj C2 fs2 =>
          cases rpx1
          injection rx with rx
          rw [rx]
        | non => cases rpx1; cases rx
        | _ => cases hf
      subst ex
      have := flat_det rpy rpx1 hfl hf
      refine wpAny_bind (wpAny_rule (wpAny_pure ?_))
      have h3 := hQ s1 ⟨H1, I1, mm1, st1⟩
      rw [this, hg.1] at h3
      exact h3
    · refine wpAny_bind (PySem.W.cmp_K (op := .Eq) hr.in1.units0 hF I1.ok.mod.kin J ty nf q.eq q.fn ?_)
      refine thn (run_in Fn hr.in1 I1.env0.in1 I1 mm1 (us := [.ref a, u]) (vs := [.ref a, x]) (.cons rfl (.cons rx .nil)) (.cons rpy (.cons rpx1 .nil)) hask) fun w s' hw => ?_
      obtain ⟨z, H', d, M', I', rv, st, mm', rp, e1, e2⟩ := hw
      subst e1 e2
      obtain rfl := rep_bl rp rv
      exact wpAny_truthy_bool (hQ s' ⟨H', I', mm', st1.trans st⟩)
  | _ => cases hfl
theorem c_inO {e : D → D → Bool} (q : EqF X.K C os g) (Fn : FnS X.prog X.w X.K X.mg X.base k g [] sp) (hr : Room (k + 1) X.A) : OpD X (compareOp .In) (dInO C os sp e id) := by
  refine opD_own fun pins s σ H x y v u QV I rx ry hq => ?_
  obtain ⟨F, M, dx, dy, Q, mm, rpx, rpy, h0, kq⟩ := hq
  obtain ⟨h1, h2⟩ := h0
  obtain ⟨c, hk, h2⟩ := optK_ex h2
  obtain ⟨ys, hs, hg, hq⟩ := optK_ex h2
  obtain ⟨l, vs, rfl, _, _⟩ := seqM_at mm rpy hs
  obtain rfl : u = Value.ref l := ry
  refine PySem.SeqAt.in_listIn _ _ ⟨H, I, mm, .refl _ _⟩ (askAll_own q Fn hr I mm rpx rpy rx h1 hk hs hg) fun s' z => ?_
  obtain ⟨H', I', mm', st⟩ := z
  rw [any_range]
  exact ⟨.bl _, H', I', rfl, kq _ _ _ _ st mm' (.bl _) hq⟩
theorem c_notinO {e : D → D → Bool} (q : EqF X.K C os g) (Fn : FnS X.prog X.w X.K X.mg X.base k g [] sp) (hr : Room (k + 1) X.A) : OpD X (compareOp .NotIn) (dInO C os sp e not) := by
  refine opD_own fun pins s σ H x y v u QV I rx ry hq => ?_
  obtain ⟨F, M, dx, dy, Q, mm, rpx, rpy, h0, kq⟩ := hq
  obtain ⟨h1, h2⟩ := h0
  obtain ⟨c, hk, h2⟩ := optK_ex h2
  obtain ⟨ys, hs, hg, hq⟩ := optK_ex h2
  obtain ⟨l, vs, rfl, _, _⟩ := seqM_at mm rpy hs
  obtain rfl : u = Value.ref l := ry
  refine PySem.SeqAt.notIn_listIn _ _ ⟨H, I, mm, .refl _ _⟩ (askAll_own q Fn hr I mm rpx rpy rx h1 hk hs hg) fun s' z => ?_
  obtain ⟨H', I', mm', st⟩ := z
  rw [any_range]
  exact ⟨.bl _, H', I', rfl, kq _ _ _ _ st mm' (.bl _) hq⟩
end
end L2.Dl

namespace L2.Dl
open PySem PySem.Spec PyProof.Rows
section
variable {X : Cx} {i : Nat} {sp : SpS} {x Cn : Str} {pp pos : Pos} {e : Expr} {te : TD}
/-- cls(*y) -/
def dCallLS1 (i : Nat) (Cn : Str) (sp : SpS) (te : TD) : TD := fun ds M Z Q => slotK ds[i]? fun v => v = .glo Cn ∧ te ds M Z fun d M1 => match d with
  | .lst xs => ask sp xs [] M1 Z Q
  | .tup xs => ask sp xs [] M1 Z Q
  | _ => False
@[simp ↓] theorem dCallLS1_eq (i : Nat) (Cn : Str) (sp : SpS) (te : TD) : ∀ ds M Z Q, dCallLS1 i Cn sp te ds M Z Q = (slotK ds[i]? fun v => v = .glo Cn ∧ te ds M Z fun d M1 => match d with
  | .lst xs => ask sp xs [] M1 Z Q
  | .tup xs => ask sp xs [] M1 Z Q
  | _ => False) := fun _ _ _ _ => rfl
theorem d_callLS1 (hv : PD X (.Name x pp) (dVar i)) (Cl : CalS X (He.ga X.K Cn) [] sp) (hk : PySem.W.keepIn X.K (.ref (He.ga X.K Cn)) = true) (he : PD X e te) {sp_ : Pos} : PD X (.Call (.Name x pp) [.Starred e sp_] [] pos) (dCallLS1 i Cn sp te) := by
  have hst : starEach [.Starred e sp_] X.env = [(true, eval e X.env)] := by simp [starEach]
  refine ⟨fun W tks F pins s σ H ds M Z Q I hs ht => ?_⟩
  have ht : slotK ds[i]? fun v => v = .glo Cn ∧ te ds M Z fun d M1 => (match d with
    | .lst xs => ask sp xs [] M1 Z Q
    | .tup xs => ask sp xs [] M1 Z Q
    | _ => False) := ht
  unfold slotK at ht
  split at ht
  · rename_i v ev
    obtain ⟨rfl, ht⟩ := ht
    refine wpAny_Call_Name_kw (thn (hv.run W tks F pins s σ H ds M Z (fun d M' => d = .glo Cn ∧ M' = M) I hs (by show slotK ds[i]? _; rw [ev]; exact ⟨rfl, rfl⟩)) fun u s1 ⟨y, H1, d, M1, I1, ry, st1, mm1, rp1, ed, em⟩ => ?_)
    subst ed em
    cases rp1
    obtain rfl : u = Value.ref (He.ga X.K Cn) := ry
    refine PySem.W.callWith_S (h₀ := X.base) I.ok.mod.kin hk (thn (he.run W tks F pins s1 σ H1 ds M1 Z _ I1 (hs.to st1 mm1) ht) fun v s2 ⟨y, H2, d, M2, I2, ry, st2, mm, rp, q⟩ => ?_) hst
    have s12 := st1.trans st2
    have main : ∀ (a : Addr) (vs : List V) (xs : List D), y = .ref a → (SqT X.K H2 a vs ∨ SqL X.K H2 a vs) → RepA X.K (ak F M2) H2 vs xs → sp xs [] M2 Z Q →
        PySem.W.StarOf (model X.prog X.w) X.A X.xe v (fun vs s₂ => X.K.In s₂.heap ∧ wpAny (model X.prog X.w) X.A (call (.ref (He.ga X.K Cn)) ([] ++ vs)) (EPD X F pins σ H M1 Q) X.xe s₂) s2 := by
      intro a vs xs ey hx r q
      subst ey
      obtain rfl : v = Value.ref a := ry
      refine StX.star_any I2 hx fun us s3 I3 rv => ⟨I3.kIn, ?_⟩
      exact thn (Cl W tks pins σ H2 s3 F M2 Z us [] vs [] xs [] Q I3 mm (hs.kx.on s12) rv .nil rfl r .nil q) fun u s' h => EPD.up s12 h
    cases d with
    | lst xs => cases rp with
      | lst hx r => exact main _ _ _ rfl (.inr hx.sq) r q
    | tup xs => cases rp with
      | tup hx r => exact main _ _ _ rfl (.inl hx.sq) r q
    | _ => exact (show False from q).elim
  · exact ht.elim
end
section
variable {X : Cx} {g : Addr} {sp : SpS} {x : Str} {p pos sp_ : Pos} {e : Expr} {te : TD}
theorem d_callS1x (Cl : CalS X g [] sp) (hk : PySem.W.keepIn X.K (.ref g) = true) (hm : X.mg x = some (.ref g)) (he : PD X e te) (hg : Gl X x := by rfl) (hdb : (x == ("__debug__" : Str)) = false := by decide) : PD X (.Call (.Name x p) [.Starred e sp_] [] pos) (dCallS1 sp te) := d_callS1 Cl hk hm he hg hdb
end
end L2.Dl

namespace PySem.SeqAt
open AutoSeq1 (wpAny_loadPart')
open MeetsSeq MeetsSeq2 MeetsSeq3 SeqRoads2
/-- two lists with N things each; each two are asked; P goes on holding -/
def PairAll (prog : Program) (w : World) (A : Around) (l b : Addr) (N : Nat) (e : Nat → Bool) (P : Shared → Prop) : Prop :=
  ∀ s, P s → ∃ xs ys : Array Value, s.heap.IsList l xs ∧ s.heap.IsList b ys ∧ xs.size = N ∧ ys.size = N ∧ ∀ j (h1 : j < xs.size) (h2 : j < ys.size) (E : Value → Shared → Prop) (Q : Bool → Shared → Prop), (∀ s', P s' → Q (e j) s') → wpAny (model prog w) A.in1 (eqBool xs[j] ys[j]) Q E s
theorem pairs_loop {prog : Program} {w : World} (l b : Addr) (N : Nat) (e : Nat → Bool) (P : Shared → Prop) (k : Nat) :
    ∀ i : Nat, N - i = k → MeetsIn prog w (Builtin.«list.__eq__.loop» ⟨[.ref l, .ref b, rawInt i, rawInt 2], []⟩)
      (fun A R s => P s ∧ PairAll prog w A l b N e P ∧ ∀ s', P s' → R (.ok (.ret (.bool (((List.range N).drop i).all e)))) s') := by
  induction k with
  | zero =>
    intro i hk A R s h
    obtain ⟨hp, g, d, tk, os⟩ := s; obtain ⟨hP, hA, h⟩ := h
    obtain ⟨xs, ys, hx, hy, nx, ny, _⟩ := hA _ hP
    obtain ⟨⟨cls, dd, data, sl⟩, ox, hc, n, hd⟩ := id hx
    obtain ⟨⟨cls2, dd2, data2, sl2⟩, oy, hc2, n2, hd2⟩ := id hy
    simp only at hc hd hc2 hd2
    subst hc hd hc2 hd2
    wp_walk using wpAny_loadPart' ox, wpAny_loadPart' oy
    have gx : xs[((i : Nat) : Int).toNat]? = none := by simp; omega
    have gy : ys[((i : Nat) : Int).toNat]? = none := by simp; omega
    have ed : (List.range N).drop i = [] := by simp; omega
    rw [ed] at h
    rw [gx, gy]
    wp_walk using wpAny_loadPart' ox, wpAny_loadPart' oy
    have key : (xs.size == ys.size) = true := by rw [nx, ny]; simp
    show R (.ok (.ret (.bool (xs.size == ys.size)))) _
    rw [key]
    exact h _ hP
  | succ k ih =>
    intro i hk A R s h
    obtain ⟨hp, g, d, tk, os⟩ := s; obtain ⟨hP, hA, h⟩ := h
    obtain ⟨xs, ys, hx, hy, nx, ny, hq⟩ := hA _ hP
    obtain ⟨⟨cls, dd, data, sl⟩, ox, hc, n, hd⟩ := id hx
    obtain ⟨⟨cls2, dd2, data2, sl2⟩, oy, hc2, n2, hd2⟩ := id hy
    simp only at hc hd hc2 hd2
    subst hc hd hc2 hd2
    wp_walk using wpAny_loadPart' ox, wpAny_loadPart' oy
    have lx : i < xs.size := by omega
    have ly : i < ys.size := by omega
    have lN : i < N := by omega
    have gx : xs[((i : Nat) : Int).toNat]? = some xs[i] := by simp [lx]
    have gy : ys[((i : Nat) : Int).toNat]? = some ys[i] := by simp [ly]
    have ed : (List.range N).drop i = i :: (List.range N).drop (i + 1) := by simp [List.drop_eq_getElem_cons, lN]
    rw [ed, List.all_cons] at h
    rw [gx, gy]
    refine wpAny_bind (hq i lx ly _ _ fun s' hP' => ?_)
    cases eb : e i with
    | true =>
      obtain ⟨hp', g', d', tk', os'⟩ := s'
      rw [eb] at h
      have up : ((i : Int) + 1) = ((i + 1 : Nat) : Int) := by push_cast; rfl
      wp_walk
      rw [up]
      exact ⟨plainId_quiet plain_eq_loop _, codeAny_builtin entry_eq_loop (by
        rw [Around.under_plainId plain_eq_loop _]
        exact ih (i + 1) (by omega) A R _ ⟨hP', hA, by simpa using h⟩)⟩
    | false =>
      rw [eb] at h
      obtain ⟨xs', ys', hx', hy', nx', ny', _⟩ := hA _ hP'
      obtain ⟨⟨cls, dd, data, sl⟩, ox', hc, n', hd⟩ := id hx'
      obtain ⟨⟨cls2, dd2, data2, sl2⟩, oy', hc2, n2', hd2⟩ := id hy'
      simp only at hc hd hc2 hd2
      subst hc hd hc2 hd2
      obtain ⟨hp', g', d', tk', os'⟩ := s'
      wp_walk using wpAny_loadPart' ox', wpAny_loadPart' oy'
      have gx' : xs'[((i : Nat) : Int).toNat]? = some (xs'[i]'(by omega)) := by
        have : i < xs'.size := by omega
        simp [this]
      have gy' : ys'[((i : Nat) : Int).toNat]? = some (ys'[i]'(by omega)) := by
        have : i < ys'.size := by omega
        simp [this]
      rw [gx', gy']
      wp_walk
      simpa using h _ hP'
theorem pairs_eq {prog : Program} {w : World} (l b : Addr) (N : Nat) (e : Nat → Bool) (P : Shared → Prop) :
    MeetsIn prog w (Builtin.«list.__eq__» ⟨[.ref l, .ref b], []⟩) (fun A R s => P s ∧ PairAll prog w A l b N e P ∧ ∀ s', P s' → R (.ok (.ret (.bool ((List.range N).all e)))) s') := by
  intro A R s h
  obtain ⟨hp, g, d, tk, os⟩ := s; obtain ⟨hP, hA, h⟩ := h
  obtain ⟨xs, ys, hx, hy, nx, ny, _⟩ := hA _ hP
  obtain ⟨⟨cls, dd, data, sl⟩, ox, hc, n, hd⟩ := id hx
  obtain ⟨⟨cls2, dd2, data2, sl2⟩, oy, hc2, n2, hd2⟩ := id hy
  simp only at hc hd hc2 hd2
  subst hc hd hc2 hd2
  have f3 := AutoSeq1.sub_list_list
  have ne : ¬ (xs.size != ys.size) = true := by simp [nx, ny]
  wp_walk using wpAny_loadPart' ox, wpAny_loadPart' oy
  exact ⟨plainId_quiet plain_eq_loop _, codeAny_builtin entry_eq_loop (by
    rw [Around.under_plainId plain_eq_loop _]
    exact pairs_loop l b N e P _ 0 rfl A R _ ⟨hP, hA, by simpa using h⟩)⟩
/-- lists of unlike lengths -/
theorem pairs_ne {prog : Program} {w : World} (l b : Addr) (xs ys : Array Value) (hs : xs.size ≠ ys.size) :
    MeetsIn prog w (Builtin.«list.__eq__» ⟨[.ref l, .ref b], []⟩) (fun A R s => s.heap.IsList l xs ∧ s.heap.IsList b ys ∧ R (.ok (.ret (.bool false))) s) := by
  intro A R s h
  obtain ⟨hp, g, d, tk, os⟩ := s; obtain ⟨hx, hy, h⟩ := h
  obtain ⟨⟨cls, dd, data, sl⟩, ox, hc, n, hd⟩ := id hx
  obtain ⟨⟨cls2, dd2, data2, sl2⟩, oy, hc2, n2, hd2⟩ := id hy
  simp only at hc hd hc2 hd2
  subst hc hd hc2 hd2
  have f3 := AutoSeq1.sub_list_list
  have ne : (xs.size != ys.size) = true := by simpa using hs
  wp_walk using wpAny_loadPart' ox, wpAny_loadPart' oy
  exact h
theorem eq_pairs {prog : Program} {w : World} {A : Around} {s : Shared} {E : Value → Shared → Prop} {l b : Addr} {N : Nat} (e : Nat → Bool) (P : Shared → Prop) {Q : Value → Shared → Prop} (hu : A.units < cLine) (hP : P s) (hA : PairAll prog w A l b N e P)
    (h : ∀ s', P s' → Q (.bool ((List.range N).all e)) s') : wpAny (model prog w) A (richCompare .Eq (.ref l) (.ref b)) Q E s := by
  obtain ⟨xs, ys, hx, hy, nx, ny, _⟩ := hA _ hP
  obtain ⟨⟨cls, dd, data, sl⟩, ox, hc, n, hd⟩ := id hx
  obtain ⟨⟨cls2, dd2, data2, sl2⟩, oy, hc2, n2, hd2⟩ := id hy
  simp only at hc hd hc2 hd2
  subst hc hd hc2 hd2
  have ta : s.TypeIs (.ref l) "list" := ⟨_, ox, rfl⟩
  have tb : s.TypeIs (.ref b) "list" := ⟨_, oy, rfl⟩
  exact wpAny_richCompare_same_room (op := .Eq) ta tb F.slot_list_eq (call_meetsIn F.slot_list_eq ta F.entry_list_eq (F.args_list_eq_2 _ _) (pairs_eq l b N e P)
    ⟨hP, hA, fun s' z => show Value.bool ((List.range N).all e) ≠ Value.notImplemented ∧ Q (.bool ((List.range N).all e)) s' from ⟨(fun x => nomatch x), h s' z⟩⟩) hu
theorem eq_pairs_ne {prog : Program} {w : World} {A : Around} {s : Shared} {E : Value → Shared → Prop} {l b : Addr} {xs ys : Array Value} {Q : Value → Shared → Prop} (hu : A.units < cLine) (hx : s.heap.IsList l xs) (hy : s.heap.IsList b ys) (hs : xs.size ≠ ys.size)
    (h : Q (.bool false) s) : wpAny (model prog w) A (richCompare .Eq (.ref l) (.ref b)) Q E s := by
  obtain ⟨⟨cls, dd, data, sl⟩, ox, hc, n, hd⟩ := id hx
  obtain ⟨⟨cls2, dd2, data2, sl2⟩, oy, hc2, n2, hd2⟩ := id hy
  simp only at hc hd hc2 hd2
  subst hc hd hc2 hd2
  have ta : s.TypeIs (.ref l) "list" := ⟨_, ox, rfl⟩
  have tb : s.TypeIs (.ref b) "list" := ⟨_, oy, rfl⟩
  exact wpAny_richCompare_same_room (op := .Eq) ta tb F.slot_list_eq (call_meetsIn F.slot_list_eq ta F.entry_list_eq (F.args_list_eq_2 _ _) (pairs_ne l b xs ys hs)
    ⟨hx, hy, show Value.bool false ≠ Value.notImplemented ∧ Q (.bool false) s from ⟨(fun x => nomatch x), h⟩⟩) hu
end PySem.SeqAt
namespace L2.Dl
open PySem PySem.Spec PyProof.Rows
/-! ### xs == ys, lists of objects with an own __eq__ -/
def fieldD : D → Bool
  | .lst xs => xs.all atomD
  | d => atomD d
def own2D (C : Str) : D → Bool
  | .obj C' fs => decide (C' = C) && fs.all fun f => fieldD f.2
  | _ => false
theorem atomsA_det {K : PySem.W.Frag} {B : List Addr} {H : Hp} : ∀ {vs : List V} {ds ds' : List D}, RepA K B H vs ds → RepA K B H vs ds' → ds.all atomD = true → ds'.all atomD = true → ds = ds'
  | _, _, _, .nil, .nil, _, _ => rfl
  | _, _, _, .cons r t, .cons r' t', h, h' => by
    rw [List.all_cons, Bool.and_eq_true] at h h'
    rw [atom_det r r' h.1 h'.1, atomsA_det t t' h.2 h'.2]
theorem rep_lst {K : PySem.W.Frag} {B : List Addr} {H : Hp} {v : V} {xs : List D} (r : Rep K B H v (.lst xs)) : ∃ a vs, v = .ref a ∧ H a = some (.lst vs) ∧ RepA K B H vs xs := by
  cases r with
  | lst h r => exact ⟨_, _, rfl, h.2, r⟩
theorem atom_nref {K : PySem.W.Frag} {B : List Addr} {H : Hp} {a : Addr} {d : D} (r : Rep K B H (.ref a) d) (h : atomD d = true) : False := by
  cases d <;> first | (cases h; done) | (cases r; done)
theorem field_det {K : PySem.W.Frag} {B : List Addr} {H : Hp} {v : V} {d d' : D} (r : Rep K B H v d) (r' : Rep K B H v d') (h : fieldD d = true) (h' : fieldD d' = true) : d = d' := by
  have go : ∀ {xs : List D} {d : D}, Rep K B H v (.lst xs) → Rep K B H v d → xs.all atomD = true → fieldD d = true → .lst xs = d := by
    intro xs d r r' h h'
    obtain ⟨a, vs, rfl, h1, h2⟩ := rep_lst r
    cases d with
    | lst ys =>
      obtain ⟨a', vs', e, h3, h4⟩ := rep_lst r'
      cases e
      rw [h1] at h3
      cases h3
      rw [atomsA_det h2 h4 h h']
    | _ => exact (atom_nref r' h').elim
  cases d with
  | lst xs => exact go r r' h h'
  | _ =>
    cases d' with
    | lst ys => exact (go r' r h' h).symm
    | _ => exact atom_det r r' h h'
theorem fields_det {K : PySem.W.Frag} {B : List Addr} {H : Hp} : ∀ {vs : List (Str × V)} {ds ds' : List (Str × D)}, RepF K B H Str vs ds → RepF K B H Str vs ds' → (ds.all fun f => fieldD f.2) = true → (ds'.all fun f => fieldD f.2) = true → ds = ds'
  | _, _, _, .nil, .nil, _, _ => rfl
  | _, _, _, .cons r t, .cons r' t', h, h' => by
    rw [List.all_cons, Bool.and_eq_true] at h h'
    rw [field_det r r' h.1 h'.1, fields_det t t' h.2 h'.2]
theorem own2_det {K : PySem.W.Frag} {B : List Addr} {H : Hp} {C : Str} {v : V} {d d' : D} (r : Rep K B H v d) (r' : Rep K B H v d') (h : own2D C d = true) (h' : own2D C d' = true) : d = d' := by
  cases d with
  | obj C1 fs =>
    have h := Bool.and_eq_true_iff.mp h
    obtain rfl : C1 = C := of_decide_eq_true h.1
    cases d' with
    | obj C2 fs' =>
      have h' := Bool.and_eq_true_iff.mp h'
      obtain rfl : C2 = C1 := of_decide_eq_true h'.1
      cases r with
      | obj a1 a2 a3 =>
        generalize hv : V.ref _ = v0 at r'
        generalize hd : D.obj _ fs' = d0 at r'
        cases r' with
        | obj b1 b2 b3 =>
          cases hv
          injection hd with e1 e2
          subst e1 e2
          rw [a2] at b2
          injection b2 with b2
          injection b2 with _ _ b2
          subst b2
          rw [fields_det a3 b3 h.2 h'.2]
        | _ => cases hd
    | _ => cases h'
  | _ => cases h
/-- what each compare says -/
def eqGo (C : Str) (os : List Str) (sp : SpS) (e : D → D → Bool) (M : MM) (xs ys : List D) : Prop := (∀ x ∈ xs, own2D C x = true ∧ e x x = true) ∧ (∀ y ∈ ys, own2D C y = true ∧ (kdX os [] y M).isSome = true) ∧ ∀ x ∈ xs, ∀ y ∈ ys, ask sp [x, y] [] M X0 fun d M' => d = .bl (e x y) ∧ M' = M
def eqAllB (e : D → D → Bool) : List D → List D → Bool
  | [], [] => true
  | x :: xs, y :: ys => e x y && eqAllB e xs ys
  | _, _ => false
def dEqO (C : Str) (os : List Str) (sp : SpS) (e : D → D → Bool) (g : Bool → Bool) : R2D := fun x y M Q => optK (seqM M x) fun xs => optK (seqM M y) fun ys => eqGo C os sp e M xs ys ∧ Q (.bl (g (eqAllB e xs ys))) M
@[simp ↓] theorem dEqO_eq (C : Str) (os : List Str) (sp : SpS) (e : D → D → Bool) (g : Bool → Bool) : ∀ x y M Q, dEqO C os sp e g x y M Q = (optK (seqM M x) fun xs => optK (seqM M y) fun ys => eqGo C os sp e M xs ys ∧ Q (.bl (g (eqAllB e xs ys))) M) := fun _ _ _ _ => rfl
def pairE (e : D → D → Bool) (xs ys : List D) (j : Nat) : Bool := match xs[j]?, ys[j]? with
  | some x, some y => e x y
  | _, _ => false
theorem pairs_all (e : D → D → Bool) : ∀ (xs ys : List D), xs.length = ys.length → ((List.range xs.length).all fun j => pairE e xs ys j) = eqAllB e xs ys
  | [], [], _ => rfl
  | [], _ :: _, h => by cases h
  | _ :: _, [], h => by cases h
  | x :: xs, y :: ys, h => by
    have ih := pairs_all e xs ys (by simpa using h)
    rw [List.length_cons, List.range_succ_eq_map, List.all_cons, List.all_map]
    show (e x y && (List.range xs.length).all fun j => pairE e xs ys j) = (e x y && eqAllB e xs ys)
    rw [ih]
theorem pairs_none (e : D → D → Bool) : ∀ (xs ys : List D), xs.length ≠ ys.length → eqAllB e xs ys = false
  | [], [], h => absurd rfl h
  | [], _ :: _, _ => rfl
  | _ :: _, [], _ => rfl
  | x :: xs, y :: ys, h => by
    show (e x y && eqAllB e xs ys) = false
    rw [pairs_none e xs ys (by simpa using h), Bool.and_false]
section
variable {X : Cx} {C : Str} {g : Addr} {k : Nat} {sp : SpS} {os : List Str}
theorem pairAll_own {e : D → D → Bool} {pins : List (Addr × Obj)} {σ : L2.St} {H : Hp} {s : Shared} {F : List Addr} {M : MM} {dx dy : D} {xs ys : List D} {l b : Addr} (q : EqF X.K C os g) (Fn : FnS X.prog X.w X.K X.mg X.base k g [] sp) (hr : Room (k + 1) X.A)
    (I : Inv X pins σ H s) (mm : RMM X.K F H M) (rpx : Rep X.K (ak F M) H (.ref l) dx) (rpy : Rep X.K (ak F M) H (.ref b) dy) (hx : seqM M dx = some xs) (hy : seqM M dy = some ys) (hl : xs.length = ys.length) (hg : eqGo C os sp e M xs ys) :
    PySem.SeqAt.PairAll X.prog X.w X.A l b xs.length (fun j => pairE e xs ys j) (fun s' => ∃ H', Inv X pins σ H' s' ∧ RMM X.K F H' M ∧ Stp H (keys M) H' (keys M)) := by
  rintro s1 ⟨H1, I1, mm1, st1⟩
  obtain ⟨a1, vs, e1, hl1, ra⟩ := seqM_at mm1 (rpx.step st1.fix) hx
  cases e1
  obtain ⟨a2, ws, e2, hl2, rb⟩ := seqM_at mm1 (rpy.step st1.fix) hy
  cases e2
  obtain ⟨its, h1, h2, h3⟩ := I1.list (.inl (.inl hl1))
  obtain ⟨jts, k1, k2, k3⟩ := I1.list (.inl (.inl hl2))
  have n1 : its.length = xs.length := by rw [← h1.length, ra.len]
  have n2 : jts.length = ys.length := by rw [← k1.length, rb.len]
  refine ⟨its.toArray, jts.toArray, h2.isList, k2.isList, by simpa using n1, by simp; omega, ?_⟩
  intro j hj1 hj2 E Q hQ
  have jx : j < its.length := by simpa using hj1
  have jy : j < jts.length := by simpa using hj2
  have lx : j < xs.length := by omega
  have ly : j < ys.length := by omega
  have hQ : ∀ s', (∃ H', Inv X pins σ H' s' ∧ RMM X.K F H' M ∧ Stp H (keys M) H' (keys M)) → Q (e xs[j] ys[j]) s' := by
    simp only [pairE, List.getElem?_eq_getElem lx, List.getElem?_eq_getElem ly] at hQ
    exact hQ
  obtain ⟨fx, ex⟩ := hg.1 xs[j] (List.getElem_mem lx)
  obtain ⟨fy, ky⟩ := hg.2.1 ys[j] (List.getElem_mem ly)
  have hask := hg.2.2 xs[j] (List.getElem_mem lx) ys[j] (List.getElem_mem ly)
  obtain ⟨v, ev, rv⟩ := ra.get (List.getElem?_eq_getElem lx)
  obtain ⟨u, eu, ru⟩ := h1.get ev
  obtain ⟨v', ev', rv'⟩ := rb.get (List.getElem?_eq_getElem ly)
  obtain ⟨u', eu', ru'⟩ := k1.get ev'
  have eu : its.toArray[j] = u := by
    rw [List.getElem?_eq_getElem jx] at eu
    cases eu
    simp
  have eu' : jts.toArray[j] = u' := by
    rw [List.getElem?_eq_getElem jy] at eu'
    cases eu'
    simp
  rw [eu, eu']
  generalize xs[j] = x at fx ex hask rv hQ
  generalize ys[j] = y at fy ky hask rv' hQ
  obtain ⟨c, hk⟩ := Option.isSome_iff_exists.mp ky
  cases x with
  | obj C1 fs =>
    obtain rfl : C1 = C := of_decide_eq_true (Bool.and_eq_true_iff.mp fx).1
    obtain ⟨a, od, ox, rfl, rfl, J⟩ := obj_at I1 mm1 rv ru (show clsOf (.obj C1 fs) M = some (C1, fs) from rfl)
    obtain ⟨ty, nf⟩ := right_ty q I1 mm1 rv' ru' hk
    obtain ⟨m, hF⟩ := I1.fr
    unfold eqBool
    refine wpAny_holding ?_
    refine wpAny_ite_split (fun hab => ?_) (fun _ => ?_)
    · have hab := eq_of_beq hab
      subst hab
      have ev : v' = .ref a := by
        cases y with
        | obj C2 fs2 =>
          cases rv'
          injection ru' with ru'
          rw [ru']
        | _ => cases fy
      subst ev
      have same := own2_det rv rv' fx fy
      refine wpAny_bind (wpAny_rule (wpAny_pure ?_))
      have h3 := hQ s1 ⟨H1, I1, mm1, st1⟩
      rw [← same, ex] at h3
      exact h3
    · refine wpAny_bind (PySem.W.cmp_K (op := .Eq) hr.in1.units0 hF I1.ok.mod.kin J ty nf q.eq q.fn ?_)
      refine thn (run_in Fn hr.in1 I1.env0.in1 I1 mm1 (us := [.ref a, u']) (vs := [.ref a, v']) (.cons rfl (.cons ru' .nil)) (.cons rv (.cons rv' .nil)) hask) fun w s' hw => ?_
      obtain ⟨z, H', d, M', I', rz, st, mm', rp, e1, e2⟩ := hw
      subst e1 e2
      obtain rfl := rep_bl rp rz
      exact wpAny_truthy_bool (hQ s' ⟨H', I', mm', st1.trans st⟩)
  | _ => cases fx
theorem c_eqO {e : D → D → Bool} (q : EqF X.K C os g) (Fn : FnS X.prog X.w X.K X.mg X.base k g [] sp) (hr : Room (k + 1) X.A) : OpD X (compareOp .Eq) (dEqO C os sp e id) := by
  refine opD_own fun pins s σ H x y v u QV I rx ry hq => ?_
  obtain ⟨F, M, dx, dy, Q, mm, rpx, rpy, h0, kq⟩ := hq
  obtain ⟨xs, hx, h1⟩ := optK_ex (show optK (seqM M dx) _ from h0)
  obtain ⟨ys, hy, hg, hq⟩ := optK_ex h1
  obtain ⟨l, vs, rfl, hl1, ra⟩ := seqM_at mm rpx hx
  obtain ⟨b, ws, rfl, hl2, rb⟩ := seqM_at mm rpy hy
  obtain rfl : v = Value.ref l := rx
  obtain rfl : u = Value.ref b := ry
  show wpAny _ X.A (richCompare .Eq (.ref l) (.ref b)) _ _ s
  by_cases hl : xs.length = ys.length
  · refine PySem.SeqAt.eq_pairs _ _ (by have := hr.units; omega) ⟨H, I, mm, .refl _ _⟩ (pairAll_own q Fn hr I mm rpx rpy hx hy hl hg) fun s' z => ?_
    obtain ⟨H', I', mm', st⟩ := z
    rw [pairs_all e xs ys hl]
    exact ⟨.bl _, H', I', rfl, kq _ _ _ _ st mm' (.bl _) hq⟩
  · obtain ⟨its, h1, h2, h3⟩ := I.list (.inl (.inl hl1))
    obtain ⟨jts, k1, k2, k3⟩ := I.list (.inl (.inl hl2))
    have n1 : its.length = xs.length := by rw [← h1.length, ra.len]
    have n2 : jts.length = ys.length := by rw [← k1.length, rb.len]
    refine PySem.SeqAt.eq_pairs_ne (by have := hr.units; omega) h2.isList k2.isList (by simp; omega) ?_
    rw [pairs_none e xs ys hl] at hq
    exact ⟨.bl _, H, I, rfl, kq _ _ _ _ (.refl _ _) mm (.bl _) hq⟩
end
end L2.Dl

namespace PySem.SeqAt
open AutoSeq1 (wpAny_loadPart')
open MeetsSeq MeetsSeq2 MeetsSeq3 SeqRoads2
theorem bool_new_own {prog : Program} {w : World} {x : Addr} : MeetsIn prog w (Builtin.«bool.__new__» ⟨[.type "bool", .ref x], []⟩) (fun A R s => wpAny (model prog w) A.in1 (truthy (.ref x)) (fun b s' => R (.ok (.ret (.bool b))) s') (fun e s' => R (.error e) s') s) := by
  intro A R s h
  have f1 := F.conv_sub_bool
  obtain ⟨hp, g, d, tk, os⟩ := s
  repeat (any_goals (first | (with_reducible refine wpAny_mono h (fun b s' hb => ?_) (fun _ _ z => z)) | wp_step))
  exact hb
open PyProof.Rows in
theorem call_bool_own {prog : Program} {w : World} {A : Around} {E : Value → Shared → Prop} {s : Shared} {x : Addr} {Q : Value → Shared → Prop} (h : wpAny (model prog w) A.in1.in1 (truthy (.ref x)) (fun b s' => Q (.bool b) s') E s) :
    wpAny (model prog w) A (call (.type "bool") [.ref x]) Q E s :=
  callType_newIn F.called_bool F.newNe_bool (F.typeCall_bool_1 _) (F.newCall_bool_1 _) (fun obj => F.args_object_init_2 obj _) F.entry_bool_new bool_new_own
    (wpAny_mono h (fun b s' q => show s'.TypeIs (.bool b) "bool" ∧ Q (.bool b) s' from ⟨rfl, q⟩) fun e s' q => q)
end PySem.SeqAt
namespace L2.Dl
open PySem PySem.Spec PyProof.Rows
/-! ### bool(x), x of a class with its own __bool__ -/
def dBoolO (C : Str) (sp : SpS) : RCD := fun xs M Q => match xs with
  | [x] => optK (clsOf x M) fun c => c.1 = C ∧ ask sp [x] [] M X0 fun d M' => optK (blD d) fun b => Q (.bl b) M'
  | _ => False
@[simp ↓] theorem dBoolO_eq (C : Str) (sp : SpS) : ∀ xs M Q, dBoolO C sp xs M Q = (match xs with
  | [x] => optK (clsOf x M) fun c => c.1 = C ∧ ask sp [x] [] M X0 fun d M' => optK (blD d) fun b => Q (.bl b) M'
  | _ => False) := fun _ _ _ => rfl
section
variable {X : Cx} {C : Str} {g : Addr} {k : Nat} {sp : SpS}
theorem k_boolO (me : Meth X.K (He.ga X.K C) "__bool__" g) (Fn : FnS X.prog X.w X.K X.mg X.base k g [] sp) (hr : Room (k + 2) X.A) : CallD X (.type "bool") (dBoolO C sp) := by
  refine callD_own fun pins s σ H vs us QV I rv hq => ?_
  obtain ⟨F, M, xs, Q, mm, rp, h0, kq⟩ := hq
  unfold dBoolO at h0
  split at h0
  · rename_i x
    obtain ⟨⟨C', fs⟩, e1, hC, h⟩ := optK_ex h0
    clear h0
    have hC : C' = C := hC
    subst hC
    cases rp with
    | cons rpx rn =>
      cases rn
      cases rv with
      | cons rx rn =>
        cases rn
        obtain ⟨a, od, ox, rfl, rfl, J⟩ := obj_at I mm rpx rx e1
        obtain ⟨m, hF⟩ := I.fr
        refine PySem.SeqAt.call_bool_own (PySem.W.truthy_K hF I.ok.mod.kin J me.at_ me.fn (thn (run_in Fn hr.in1.in1 I.env0.in1.in1 I mm (us := [.ref a]) (vs := [.ref a]) (.cons rfl .nil) (.cons rpx .nil) h) fun w s' hw => ?_))
        obtain ⟨z, H', d, M', I', rz, st, mm', rp, hb0⟩ := hw
        obtain ⟨b, eb, hb⟩ := optK_bl hb0
        subst eb
        obtain rfl := rep_bl rp rz
        exact ⟨.bl b, H', I', rfl, kq _ _ _ _ st mm' (.bl b) hb⟩
  · exact h0.elim
end
end L2.Dl

namespace L2.Dl
open PySem PySem.Spec PyProof.Rows
/-! ### o.f, o.g = e -/
section
variable {X : Cx} {o o2 : Expr} {f f2 : Str} {pos p1 p2 pt : Pos}
def gFld (K : PySem.W.Frag) (to : TE) (f : Str) : TG := fun v σ H Q => to σ H fun x H1 => ∃ a C dx fs, x = .ref a ∧ H1 a = some (.ins C dx fs) ∧ Cls K C ∧ NoAttr K C f ∧ fs.length < 1000 ∧ Q σ (upd H1 a (.ins C dx (putF f v fs)))
theorem pg_fld {to : TE} (ho : PE X o to) : PG X (.Attribute o f pos) (gFld X.K to f) := by
  refine ⟨fun pins s σ H v u Q I r h => ?_⟩
  rw [assign_Attribute]
  refine wpAny_bind (wpAny_holding (thn (ho.run pins s σ H _ I h) fun ov s1 ⟨x, H1, I1, rx, a, C, dx, fs, ex, ea, c, n, l, q⟩ => ?_))
  subst ex
  obtain rfl : ov = Value.ref a := rx
  refine wpAny_bind (wpAny_standAt (wpAny_bind (wpAny_holding ?_)))
  exact setattr_ok I1 ea c n l r fun s3 I3 => wpAny_release ⟨σ, _, I3, q⟩
def dFldS2 (Cs : List Str) (f f2 : Str) (to to2 tv : TD) : TSD := fun E ds M => tv ds M (E.xd ds) fun d M1 => match d with
  | .tup [x, y] => to ds M1 (E.xd ds) fun o M2 => match o with
    | .ref a => objK (M2.lookup a) fun C fs => C ∈ Cs ∧ fs.length < 1000 ∧ letK (put M2 a (.obj C (putD f x fs))) fun M' => to2 ds M' (E.xd ds) fun o2 M3 => match o2 with
      | .ref b => objK (M3.lookup b) fun C2 fs2 => C2 ∈ Cs ∧ fs2.length < 1000 ∧ letK (put M3 b (.obj C2 (putD f2 y fs2))) fun M'' => E.nx ds M''
      | _ => False
    | _ => False
  | _ => False
@[simp ↓] theorem dFldS2_eq (Cs : List Str) (f f2 : Str) (to to2 tv : TD) : ∀ E ds M, dFldS2 Cs f f2 to to2 tv E ds M = (tv ds M (E.xd ds) fun d M1 => match d with
  | .tup [x, y] => to ds M1 (E.xd ds) fun o M2 => match o with
    | .ref a => objK (M2.lookup a) fun C fs => C ∈ Cs ∧ fs.length < 1000 ∧ letK (put M2 a (.obj C (putD f x fs))) fun M' => to2 ds M' (E.xd ds) fun o2 M3 => match o2 with
      | .ref b => objK (M3.lookup b) fun C2 fs2 => C2 ∈ Cs ∧ fs2.length < 1000 ∧ letK (put M3 b (.obj C2 (putD f2 y fs2))) fun M'' => E.nx ds M''
      | _ => False
    | _ => False
  | _ => False) := fun _ _ _ => rfl
theorem s_fld2 {e : Expr} {Cs : List Str} {to to2 tv : TD} {k : Nat} (hc : X.calm = true) (hC : FldOk X.K Cs f) (hC2 : FldOk X.K Cs f2) (hv : PD X e tv) (ho : PD X o to) (ho2 : PD X o2 to2)
    (hs : swapsWithSole [.Tuple [.Attribute o f p1, .Attribute o2 f2 p2] k pt] e pos.line X.env = pure false := by rfl) (hw : swappedStores [.Tuple [.Attribute o f p1, .Attribute o2 f2 p2] k pt] e X.env = pure none := by rfl) :
    PSD X (.Assign [.Tuple [.Attribute o f p1, .Attribute o2 f2 p2] k pt] e pos) (dFldS2 Cs f f2 to to2 tv) := by
  refine PSD.of (fun W tk => ps_asg (hv.pe tk) (pg_tup hc (pgs_cons (pg_fld (ho.pe tk)) (pgs_cons (pg_fld (ho2.pe tk)) pgs_nil))) hs hw) fun W F σ H ds M E hst kx ht => ?_
  refine ⟨F, ds, M, _, _, hst.ex kx, ht, fun v H1 d M1 st mm rp q => ?_⟩
  cases d with
  | tup xs =>
    match xs, rp, q with
    | [x, y], rp, q =>
      cases rp with
      | tup hx r =>
        cases r with
        | @cons u1 _ _ _ rx r =>
        cases r with
        | @cons u2 _ _ _ ry r =>
        cases r
        refine ⟨_, _, rfl, hx.sq, rfl, _, _, rfl, ?_⟩
        refine ⟨F, ds, M1, _, _, (hst.ex kx).to st mm, q, fun ov H2 od M2 st2 mm2 rp2 q2 => ?_⟩
        cases od with
        | ref a =>
          cases rp2
          have q2 : objK (M2.lookup a) (fun C fs => C ∈ Cs ∧ fs.length < 1000 ∧ letK (put M2 a (.obj C (putD f x fs))) fun M' => to2 ds M' (E.xd ds) fun o2 M3 => match o2 with
            | .ref b => objK (M3.lookup b) fun C2 fs2 => C2 ∈ Cs ∧ fs2.length < 1000 ∧ letK (put M3 b (.obj C2 (putD f2 y fs2))) fun M'' => E.nx ds M''
            | _ => False) := q2
          unfold objK at q2
          split at q2
          · rename_i C fs e1
            obtain ⟨hm, hl, q2⟩ := q2
            obtain ⟨dx, vs, h1, h2⟩ := mm2.get e1
            have hk := lookup_key e1
            have s12 := st.trans st2
            have hr : RepO X.K (ak F M2) (upd H2 a (.ins (He.ga X.K C) dx (putF f u1 vs))) a (.obj C (putD f x fs)) := ⟨dx, _, upd_same, (RepF.put (rx.step st2.fix) h2).step (stp_put hk).fix⟩
            refine ⟨a, _, dx, vs, rfl, h1, (hC C hm).1, (hC C hm).2, by rw [h2.len]; exact hl, _, _, rfl, ?_⟩
            have mm3 := mm2.put hk hr
            have sp : Stp H2 (keys M2) (upd H2 a (.ins (He.ga X.K C) dx (putF f u1 vs))) (keys (put M2 a (.obj C (putD f x fs)))) := by
              rw [keys_put]
              exact stp_put hk
            have s3 := s12.trans sp
            refine ⟨F, ds, put M2 a (.obj C (putD f x fs)), _, _, (hst.ex kx).to s3 mm3, q2, fun ov3 H4 od3 M4 st4 mm4 rp4 q4 => ?_⟩
            cases od3 with
            | ref b =>
              cases rp4
              have q4 : objK (M4.lookup b) (fun C2 fs2 => C2 ∈ Cs ∧ fs2.length < 1000 ∧ E.nx ds (put M4 b (.obj C2 (putD f2 y fs2)))) := q4
              unfold objK at q4
              split at q4
              · rename_i C2 fs2 e2
                obtain ⟨hm2, hl2, q4⟩ := q4
                obtain ⟨dx2, vs2, h12, h22⟩ := mm4.get e2
                have hk2 := lookup_key e2
                have s34 := s3.trans st4
                have hr2 : RepO X.K (ak F M4) (upd H4 b (.ins (He.ga X.K C2) dx2 (putF f2 u2 vs2))) b (.obj C2 (putD f2 y fs2)) := ⟨dx2, _, upd_same, (RepF.put (((ry.step st2.fix).step sp.fix).step st4.fix) h22).step (stp_put hk2).fix⟩
                refine ⟨b, _, dx2, vs2, rfl, h12, (hC2 C2 hm2).1, (hC2 C2 hm2).2, by rw [h22.len]; exact hl2, rfl, ds, put M4 b (.obj C2 (putD f2 y fs2)), ?_, ⟨mm4.put hk2 hr2, ?_⟩, q4⟩
                · rw [keys_put]; exact s34.trans (stp_put hk2)
                · unfold ak; rw [keys_put]; exact (hst.to s34 mm4).sl.step (stp_put hk2).fix
              · exact q4.elim
            | _ => exact (show False from q4).elim
          · exact q2.elim
        | _ => exact (show False from q2).elim
    | [], _, q => exact (show False from q).elim
    | [_], _, q => exact (show False from q).elim
    | _ :: _ :: _ :: _, _, q => exact (show False from q).elim
  | _ => exact (show False from q).elim
end
/-! ### list(range(n)) -/
section
variable {X : Cx} {e : Expr} {te : TD} {pos p p2 pos2 : Pos}
def dListRg (t : TD) : TD := fun ds M Z Q => t ds M Z fun d M1 => match d with | .int j => 0 ≤ j ∧ j ≤ 16777216 ∧ Q (.lst (ranged 0 j.toNat)) M1 | _ => False
@[simp ↓] theorem dListRg_eq (t : TD) : ∀ ds M Z Q, dListRg t ds M Z Q = (t ds M Z fun d M1 => match d with | .int j => 0 ≤ j ∧ j ≤ 16777216 ∧ Q (.lst (ranged 0 j.toNat)) M1 | _ => False) := fun _ _ _ _ => rfl
theorem repA_rg {K : PySem.W.Frag} {B : List Addr} {H : Hp} : ∀ (l : List Nat), RepA K B H (l.map fun i => V.int (0 + (i : Nat))) (l.map fun (i : Nat) => D.int (0 + i))
  | [] => .nil
  | b :: r => .cons (.int _) (repA_rg r)
theorem d_listRg (hc : X.calm = true) (hml : X.mg "list" = none) (hmr : X.mg "range" = none) (h : PD X e te) (hgl : Gl X "list" := by rfl) (hgr : Gl X "range" := by rfl) (hs : notStar e = true := by rfl) : PD X (.Call (.Name "list" p) [.Call (.Name "range" p2) [e] [] pos2] [] pos) (dListRg te) := by
  refine PD.of (fun W tk => pe_listRg hc hgl hml (prg_1 hgr hmr (h.pe tk) (star_one hs))) fun W F σ H ds M Z Q hst ht => ?_
  refine ⟨F, ds, M, _, _, hst, ht, fun v H1 d M1 st mm rp q => ?_⟩
  have k := (KQ.eq (K := X.K) (F := F) (H := H) (M := M) (Q := Q)).on st
  cases d with
  | int j =>
    cases rp
    obtain ⟨q0, q1, q⟩ := q
    refine ⟨j, rfl, RgOk.of_le (by omega) (by omega) (by omega) (by omega), fun p hp => ?_⟩
    refine k.newL mm (xs := ranged 0 j.toNat) ?_ q p hp
    unfold rgV ranged
    rw [Int.sub_zero]
    exact repA_rg _
  | _ => exact (show False from q).elim
end
/-! ### text * n -/
section
variable {X : Cx}
def rRepS : R2 := fun x y H Q => ∃ z k, x = .str z ∧ y = .int k ∧ MulOk z k ∧ Q (.str (Txt.mul z k)) H
theorem op_repS : OpR X (binaryOp .Mult) rRepS := by
  intro pins s σ H x y v u Q I rx ry h
  obtain ⟨z, k, rfl, rfl, ok, q⟩ := h
  obtain ⟨t, rfl⟩ := rx
  obtain ⟨t2, rfl⟩ := ry
  exact SB.mul ok fun t' k => ⟨.str _, H, I.tok _, ⟨_, rfl⟩, q⟩
theorem reps_list (a : Array Nat) : ∀ (n : Nat) (acc : Array Nat), ((List.replicate n a).foldl (· ++ ·) acc).toList = acc.toList ++ (List.replicate n a.toList).flatten
  | 0, acc => by simp
  | n + 1, acc => by
    rw [List.replicate_succ, List.foldl_cons, reps_list a n, List.replicate_succ, List.flatten_cons, Array.toList_append, List.append_assoc]
theorem mul_mem {z : Str} {k : Int} {c : Nat} (h : c ∈ (Txt.mul z k).cps.toList) : c ∈ z.cps.toList := by
  unfold Txt.mul at h
  split at h
  · exact absurd h (by show ¬ c ∈ []; simp)
  · split at h
    · exact h
    · have e : (⟨(List.replicate k.toNat z.cps).foldl (· ++ ·) #[]⟩ : Str).cps.toList = ([] : List Nat) ++ (List.replicate k.toNat z.cps.toList).flatten := reps_list _ _ _
      rw [e, List.nil_append] at h
      obtain ⟨l, hl, hc⟩ := List.mem_flatten.mp h
      rw [(List.mem_replicate.mp hl).2] at hc
      exact hc
theorem mul_len {z : Str} {k : Int} (h : 0 ≤ k) : ((Txt.mul z k).length : Int) = z.length * k := by
  rw [len_mul, if_neg (by simp; omega)]
def dRepS : R2D := fun x y M Q => match x, y with
  | .str z, .int k => z.length ≤ 16 ∧ 0 ≤ k ∧ k ≤ 1000 ∧ Q (.str (Txt.mul z k)) M
  | _, _ => False
@[simp ↓] theorem dRepS_eq : ∀ x y M Q, dRepS x y M Q = (match x, y with
  | .str z, .int k => z.length ≤ 16 ∧ 0 ≤ k ∧ k ≤ 1000 ∧ Q (.str (Txt.mul z k)) M
  | _, _ => False) := fun _ _ _ _ => rfl
theorem o_repS : OpD X (binaryOp .Mult) dRepS := by
  refine ⟨_, op_repS, fun F H M x y dx dy Q QV mm rx ry hr k => ?_⟩
  match dx, dy, hr with
  | .str z, .int n, hr =>
    cases ry
    cases rx with
    | str _ hz =>
      obtain ⟨h1, h2, h3, q⟩ := hr
      exact ⟨z, n, rfl, rfl, mulOk_of 16 1000 h1 (by omega) (by omega) (by decide) (by decide), k.at mm (.str _ (okS_sub hz fun c hc => mul_mem hc)) q⟩
end
end L2.Dl

namespace L2.Dl
open PySem PySem.Spec PyProof.Rows
/-! ### max(i, j), min(i, j) -/
section
variable {X : Cx}
def dMax2 : RCD := fun xs M Q => match xs with | [.int i, .int j] => Q (.int (if j > i then j else i)) M | _ => False
@[simp ↓] theorem dMax2_eq : ∀ xs M Q, dMax2 xs M Q = (match xs with | [.int i, .int j] => Q (.int (if j > i then j else i)) M | _ => False) := fun _ _ _ => rfl
theorem k_max2 (hc : X.calm = true) : CallD X (.builtin "max") dMax2 := by
  refine ⟨_, call_max2 hc, fun F H M vs xs Q QV mm rp hr k => ?_⟩
  unfold dMax2 at hr
  split at hr
  · rename_i i j
    obtain ⟨v, w, rfl, r1, r2⟩ := repA2 rp
    cases r1
    cases r2
    exact ⟨i, j, rfl, k.at mm (.int _) hr⟩
  · exact hr.elim
def dMin2 : RCD := fun xs M Q => match xs with | [.int i, .int j] => Q (.int (if j < i then j else i)) M | _ => False
@[simp ↓] theorem dMin2_eq : ∀ xs M Q, dMin2 xs M Q = (match xs with | [.int i, .int j] => Q (.int (if j < i then j else i)) M | _ => False) := fun _ _ _ => rfl
theorem k_min2 (hc : X.calm = true) : CallD X (.builtin "min") dMin2 := by
  refine ⟨_, call_min2 hc, fun F H M vs xs Q QV mm rp hr k => ?_⟩
  unfold dMin2 at hr
  split at hr
  · rename_i i j
    obtain ⟨v, w, rfl, r1, r2⟩ := repA2 rp
    cases r1
    cases r2
    exact ⟨i, j, rfl, k.at mm (.int _) hr⟩
  · exact hr.elim
end
end L2.Dl

namespace L2.Dl
open PySem PySem.Spec PyProof.Rows
/-! ### f"{x}" and str(x), x a text, a bool or None -/
section
variable {X : Cx} {e : Expr} {te : TD} {pos : Pos}
def boolT (b : Bool) : Str := if b = true then Str.ofString "True" else Str.ofString "False"
theorem boolT_ok (b : Bool) : PyData.strOk (boolT b) = true := by cases b <;> exact okS_of _
def noneT : Str := Str.ofString "None"
def tFmtG (te : TE) : TE := fun σ H Q => te σ H fun x H1 => (∃ y : Str, x = .str y ∧ y.length ≤ sizeLine ∧ Q (.str y) H1) ∨ (∃ b : Bool, x = .bl b ∧ Q (.str (boolT b)) H1) ∨ (x = .non ∧ Q (.str noneT) H1)
theorem pe_fmtG {te : TE} (he : PE X e te) : PE X (.FormattedValue e (-1) none pos) (tFmtG te) := by
  refine ⟨fun pins s σ H Q I h => ?_⟩
  refine wpAny_FormattedValue_plain (thn (he.run pins s σ H _ I h) fun v s1 hv => ?_)
  obtain ⟨x, H1, I1, r1, q⟩ := hv
  rcases q with ⟨y, rfl, hz, q⟩ | ⟨b, rfl, q⟩ | ⟨rfl, q⟩
  · obtain ⟨t, rfl⟩ := r1
    exact wpAny_formatField_str ⟨.str y, H1, I1, ⟨t, rfl⟩, q⟩ ⟨.str y, H1, I1.tok _, ⟨_, rfl⟩, q⟩ hz
  · obtain rfl := r1
    exact wpAny_formatField_bool ⟨.str (boolT b), H1, I1.tok _, ⟨_, rfl⟩, q⟩
  · obtain rfl := r1
    exact wpAny_formatField_none ⟨.str noneT, H1, I1.tok _, ⟨_, rfl⟩, q⟩
def dFmtG (te : TD) : TD := fun ds M Z Q => te ds M Z fun d M1 => match d with
  | .str y => y.length ≤ sizeLine ∧ Q (.str y) M1
  | .bl b => Q (.str (boolT b)) M1
  | .non => Q (.str noneT) M1
  | _ => False
@[simp ↓] theorem dFmtG_eq (te : TD) : ∀ ds M Z Q, dFmtG te ds M Z Q = (te ds M Z fun d M1 => match d with
  | .str y => y.length ≤ sizeLine ∧ Q (.str y) M1
  | .bl b => Q (.str (boolT b)) M1
  | .non => Q (.str noneT) M1
  | _ => False) := fun _ _ _ _ => rfl
theorem d_fmtG (he : PD X e te) : PD X (.FormattedValue e (-1) none pos) (dFmtG te) := by
  refine PD.of (fun W tk => pe_fmtG (he.pe tk)) fun W F σ H ds M Z Q hs ht => ?_
  refine ⟨F, ds, M, _, _, hs, ht, fun v H1 d M1 st mm rp q => ?_⟩
  cases rp with
  | str y hy => exact .inl ⟨y, rfl, q.1, (KQ.eq.on st).at mm (.str y hy) q.2⟩
  | bl b => exact .inr (.inl ⟨b, rfl, (KQ.eq.on st).at mm (.str _ (boolT_ok b)) q⟩)
  | non => exact .inr (.inr ⟨rfl, (KQ.eq.on st).at mm (.str _ (okS_of _)) q⟩)
  | _ => exact (show False from q).elim
def dStrG : RCD := fun xs M Q => match xs with
  | [.str a] => Q (.str a) M
  | [.bl b] => Q (.str (boolT b)) M
  | [.non] => Q (.str noneT) M
  | _ => False
@[simp ↓] theorem dStrG_eq : ∀ xs M Q, dStrG xs M Q = (match xs with
  | [.str a] => Q (.str a) M
  | [.bl b] => Q (.str (boolT b)) M
  | [.non] => Q (.str noneT) M
  | _ => False) := fun _ _ _ => rfl
theorem call_strG : CallR X (.type "str") (fun xs H Q => (∃ a, xs = [.str a] ∧ Q (.str a) H) ∨ (∃ b, xs = [.bl b] ∧ Q (.str (boolT b)) H) ∨ (xs = [.non] ∧ Q (.str noneT) H)) := by
  intro pins s σ H xs us Q I r h
  rcases h with ⟨a, rfl, q⟩ | ⟨b, rfl, q⟩ | ⟨rfl, q⟩
  · obtain ⟨u, rfl, t, rfl⟩ := vals1 r
    exact PySem.P.str_of_str ⟨.str a, H, I, ⟨t, rfl⟩, q⟩
  · obtain ⟨u, rfl, r1⟩ := vals1 r
    obtain rfl := r1
    exact PySem.P.str_of_bool ⟨.str (boolT b), H, I.tok _, ⟨_, rfl⟩, q⟩
  · obtain ⟨u, rfl, r1⟩ := vals1 r
    obtain rfl := r1
    exact PySem.P.str_of_none ⟨.str noneT, H, I.tok _, ⟨_, rfl⟩, q⟩
theorem k_strG : CallD X (.type "str") dStrG := by
  refine ⟨_, call_strG, fun F H M vs xs Q QV mm rp hr k => ?_⟩
  unfold dStrG at hr
  split at hr
  · rename_i a
    obtain ⟨v, rfl, r⟩ := repA1 rp
    cases r with
    | str _ hy => exact .inl ⟨a, rfl, k.at mm (.str a hy) hr⟩
  · rename_i b
    obtain ⟨v, rfl, r⟩ := repA1 rp
    cases r
    exact .inr (.inl ⟨b, rfl, k.at mm (.str _ (boolT_ok b)) hr⟩)
  · obtain ⟨v, rfl, r⟩ := repA1 rp
    cases r
    exact .inr (.inr ⟨rfl, k.at mm (.str _ (okS_of _)) hr⟩)
  · exact hr.elim
def dBoolB : RCD := fun xs M Q => match xs with | [.bl b] => Q (.bl b) M | _ => False
@[simp ↓] theorem dBoolB_eq : ∀ xs M Q, dBoolB xs M Q = (match xs with | [.bl b] => Q (.bl b) M | _ => False) := fun _ _ _ => rfl
theorem k_boolB : CallD X (.type "bool") dBoolB := by
  refine ⟨_, call_bool1, fun F H M vs xs Q QV mm rp hr k => ?_⟩
  unfold dBoolB at hr
  split at hr
  · rename_i b
    obtain ⟨v, rfl, r⟩ := repA1 rp
    cases r
    exact .inr ⟨b, rfl, k.at mm (.bl b) hr⟩
  · exact hr.elim
/-! ### x is not a bool -/
def dIsNB : R2D := fun x y M Q => match x, y with | .bl a, .bl b => Q (.bl (!decide (a = b))) M | _, _ => False
@[simp ↓] theorem dIsNB_eq : ∀ x y M Q, dIsNB x y M Q = (match x, y with | .bl a, .bl b => Q (.bl (!decide (a = b))) M | _, _ => False) := fun _ _ _ _ => rfl
theorem c_isNB : OpD X (compareOp .IsNot) dIsNB := by
  refine ⟨_, op_isnot_bl, fun F H M x y dx dy Q QV mm rx ry hr k => ?_⟩
  match dx, dy, hr with
  | .bl a, .bl b, hr =>
    cases rx
    cases ry
    exact ⟨a, b, rfl, rfl, k.at mm (.bl _) hr⟩
end
end L2.Dl

namespace L2.Dl
open PySem PySem.Spec PyProof.Rows
/-! ### len({e for x in xs if c}), e ints or texts -/
def kHas (acc : List Key) (k : Key) : Bool := acc.any fun j => decide (j = k)
/-- each key once -/
def kAdd (acc : List Key) (k : Key) : List Key := if kHas acc k = true then acc else acc ++ [k]
theorem kHas_iff {acc : List Key} {k : Key} : kHas acc k = true ↔ k ∈ acc := by
  unfold kHas
  rw [List.any_eq_true]
  exact ⟨fun ⟨j, hj, e⟩ => of_decide_eq_true e ▸ hj, fun h => ⟨k, h, decide_eq_true rfl⟩⟩
theorem kHas_add (acc : List Key) (z : Key) : (fun j => kHas acc j || decide (j = z)) = kHas (kAdd acc z) := by
  funext j
  unfold kAdd
  by_cases hz : kHas acc z = true
  · rw [if_pos hz]
    by_cases hj : j = z
    · rw [hj, hz]
      rfl
    · rw [decide_eq_false hj, Bool.or_false]
  · rw [if_neg hz]
    show _ = (acc ++ [z]).any _
    rw [List.any_append]
    show _ = (kHas acc j || (decide (z = j) || false))
    rw [Bool.or_false, show decide (z = j) = decide (j = z) from decide_eq_decide.mpr ⟨Eq.symm, Eq.symm⟩]
theorem kLen_add (acc : List Key) (z : Key) : (if kHas acc z = true then acc.length else acc.length + 1) = (kAdd acc z).length := by
  unfold kAdd
  by_cases hz : kHas acc z = true
  · rw [if_pos hz, if_pos hz]
  · rw [if_neg hz, if_neg hz]
    simp
def scGo (g : Tgt) (tt : TTD) (te : TD) (ds : SD) (R : List Key → MM → Prop) : List D → List Key → MM → Prop
  | [], acc, M => R acc M
  | x :: xs, acc, M => optK (setT g x ds) fun ds2 => tt ds2 M X0 fun b M3 => if b = true then te ds2 M3 X0 fun y M4 => optK (keyD y) fun k => acc.length < 1000 ∧ scGo g tt te ds R xs (kAdd acc k) M4 else scGo g tt te ds R xs acc M3
/-- the set that is filled -/
abbrev kSet (X : Cx) (D : Addr) (acc : List Key) : HO := SetK X.prog X.w D (kHas acc) acc.length
theorem keyD_rep {K : PySem.W.Frag} {B : List Addr} {H : Hp} {v : V} {d : D} {k : Key} (r : Rep K B H v d) (e : keyD d = some k) : v = kV k := by
  cases r <;> first | (cases e; rfl) | (cases e; done)
section
variable {X : Cx} {tg : Expr}
/-- one more -/
theorem kSet_add {pins : List (Addr × Obj)} {σ : L2.St} {H : Hp} {s : Shared} {D : Addr} {acc : List Key} {k : Key} {u : Value} {E : Value → Shared → Prop} {G : Shared → Prop} (I : Inv X pins σ H s) (e : H D = some (kSet X D acc)) (ru : RelV (kV k) u) (hl : acc.length < 1000)
    (q : ∀ s2, Inv X pins σ (upd H D (kSet X D (kAdd acc k))) s2 → G s2) : wpAny (model X.prog X.w) X.A (call (.builtin "set.add") [.ref D, u]) (fun _ => G) E s := by
  refine call_set_add (kV_is ru) (key_scan ru) (setK_get I e) (by unfold scanBound; omega) fun h2 sb new => ?_
  rw [kHas_add, kLen_add] at new
  obtain ⟨o, es, ep, t, ho, more⟩ := new
  exact q _ (I.write (e := D) (t' := s.toks + 1) (by rw [e]; trivial) (.inl rfl) (fun b u hb hu => (sb.2 b hb).trans hu) ⟨o, ho⟩ (setK_new ⟨o, es, ep, t, ho, more⟩))
/-- where the set stands at the turn i -/
structure ScAt (X : Cx) (F : List Addr) (σ : L2.St) (ds : SD) (H1 : Hp) (M1 : MM) (L : Addr) (g : Tgt) (tt : TTD) (te : TD) (vs : List Nat) (R : List Key → MM → Prop) (items : List D) (i : Nat) (H2 : Hp) (M2 : MM) (acc : List Key) : Prop where
  le : i ≤ items.length
  st : Stp H1 (keys M1) H2 (keys M2)
  fx : Fix H1 (ak F M1) H2 (ak (L :: F) M2)
  mm : RMM X.K (L :: F) H2 M2
  at_ : H2 L = some (kSet X L acc)
  sl : RSl X.K (ak (L :: F) M2) H2 σ ds
  go : scGo g tt te (wipeD ds vs) R (items.drop i) acc M2
/-- the turn's own step: from the item to the next place -/
def ScStep (X : Cx) (F : List Addr) (σ : L2.St) (ds : SD) (H1 : Hp) (M1 : MM) (L : Addr) (g : Tgt) (tt : TTD) (te : TD) (vs : List Nat) (R : List Key → MM → Prop) (items : List D) (i : Nat) (H2 : Hp) : Prop := ∃ M2 acc, ScAt X F σ ds H1 M1 L g tt te vs R items i H2 M2 acc
theorem ScAt.item {F : List Addr} {σ : L2.St} {ds : SD} {H1 : Hp} {M1 : MM} {L : Addr} {g : Tgt} {tt : TTD} {te : TD} {vs : List Nat} {R : List Key → MM → Prop} {items : List D} {i : Nat} {H2 : Hp} {M2 : MM} {acc : List Key} (S : ScAt X F σ ds H1 M1 L g tt te vs R items i H2 M2 acc) (hD : H1 L = none) (hv : ∀ j ∈ g.slots, j ∈ vs) {J : It} (wk : WalkD X.K F J H1 M1 items) (hlt : i < items.length) {x : V} {H3 : Hp} (y : J.yld i H2 x H3) :
    tgV X.K g x (wipe σ vs) H3 fun σ2 H4 => wipe σ2 vs = wipe σ vs ∧ ttOf X.K W0 tt σ2 H4 fun b H5 => if b = true then teOf X.K W0 te σ2 H5 fun yv H6 => ∃ k acc2, yv = kV k ∧ H6 L = some (kSet X L acc2) ∧ acc2.length < 1000 ∧ ScStep X F σ ds H1 M1 L g tt te vs R items (i + 1) (upd H6 L (kSet X L (kAdd acc2 k))) else ScStep X F σ ds H1 M1 L g tt te vs R items (i + 1) H5 := by
  obtain ⟨a1, m3, d, hd, rd⟩ := wk.yld (L :: F) i H2 M2 x H3 hlt S.fx S.mm y
  have hk : L ∉ keys M2 := (S.mm.fd L List.mem_cons_self).1
  have eq : items.drop i = d :: items.drop (i + 1) := by
    rw [List.drop_eq_getElem_cons hlt]
    rw [List.getElem?_eq_getElem hlt] at hd
    rw [Option.some.inj hd]
  have go := S.go
  rw [eq] at go
  obtain ⟨ds2, e, go⟩ := optK_ex go
  refine tg_ok rd e ((S.sl.step a1.fix).wipe vs) fun σ2 sl2 hwp => ⟨?_, ?_⟩
  · rw [hwp vs hv, wipe_wipe vs vs fun _ h => h]
  refine ⟨L :: F, ds2, M2, _, _, ⟨m3, sl2, kw0⟩, go, fun b H5 M5 a2 m5 go2 => ?_⟩
  have a12 := a1.trans a2
  cases b with
  | false => exact iteF ⟨M5, acc, ⟨hlt, S.st.trans a12, S.fx.trans a12.fix, m5, a12.keep L _ hk S.at_, S.sl.step a12.fix, go2⟩⟩
  | true =>
    refine iteT ⟨L :: F, ds2, M5, _, _, ⟨m5, sl2.step a2.fix, kw0⟩, go2, fun yv H6 yd M6 a3 m6 r6 go3 => ?_⟩
    obtain ⟨k, ek, hacc, go3⟩ := optK_ex go3
    have a13 := a12.trans a3
    have inD : L ∈ L :: F := List.mem_cons_self
    have fz : Fix H6 (ak (L :: F) M6) (upd H6 L (kSet X L (kAdd acc k))) (ak (L :: F) M6) := fix_hid inD
    have whole := S.st.trans a13
    refine ⟨k, acc, keyD_rep r6 ek, a13.keep L _ hk S.at_, hacc, M6, kAdd acc k, ⟨hlt, ⟨fun b o hb eb => ?_, whole.new⟩, (S.fx.trans a13.fix).trans fz, m6.hid inD, upd_same, (S.sl.step a13.fix).step fz, go3⟩⟩
    rw [upd_ne (ne_of_none eb hD)]
    exact whole.keep b o hb eb
theorem set_run {elt iter : Expr} {ifs : List Expr} {scope : Scope} {own : List (Str × Nat)} {ti : TID} {g : Tgt} {tt : TTD} {te : TD} {spos : Pos} (hc : X.calm = true) (hN : X.N.Nodup) (hi : PID X tg iter ti) (ok : BlkOk X.N X.env.scope scope own)
    (hg : ∀ (s : Shared) (H : Hp) (C : Addr) (cl : List (Str × Addr)) (fp : List Addr), PG (X.blk s H scope (compEnvC scope cl C X.env) fp) tg (tgV X.K g)) (ht : ∀ (s : Shared) (H : Hp) (C : Addr) (cl : List (Str × Addr)) (fp : List Addr), PTsD (X.blk s H scope (compEnvC scope cl C X.env) fp) ifs tt)
    (he : ∀ (s : Shared) (H : Hp) (C : Addr) (cl : List (Str × Addr)) (fp : List Addr), PD (X.blk s H scope (compEnvC scope cl C X.env) fp) elt te) (hv : ∀ i ∈ g.slots, i ∈ own.map (·.2)) (hs : ∀ x, foldedSetIterable iter X.env x = pure x)
    {W : WX} (tk : Takes X W) {F : List Addr} {pins : List (Addr × Obj)} {s : Shared} {σ : L2.St} {H : Hp} {ds : SD} {M : MM} {Z : XD} {R : List Key → MM → Prop} (I : Inv X pins σ H s) (hst : Stt X.K W F H σ ds M Z)
    (h : ti ds M Z fun items M1 => scGo g tt te (wipeD ds (own.map (·.2))) R items [] M1) :
    wpAny (model X.prog X.w) X.A (eval (.SetComp elt [⟨tg, iter, ifs, 0⟩] scope spos) X.env) (fun v s9 => ∃ L acc H9 M9, v = .ref L ∧ Inv X pins σ H9 s9 ∧ H9 L = some (kSet X L acc) ∧ Stp H (keys M) H9 (keys M9) ∧ RMM X.K F H9 M9 ∧ R acc M9) X.xe s := by
  obtain ⟨wi, pi, hw⟩ := hi.run W tk
  have wk0 := hw F σ H ds M Z _ hst h (fun J H1 => ∃ items M1, Stp H (keys M) H1 (keys M1) ∧ RMM X.K F H1 M1 ∧ WalkD X.K F J H1 M1 items ∧ scGo g tt te (wipeD ds (own.map (·.2))) R items [] M1) fun J H1 items M1 a b c d => ⟨items, M1, a, b, c, d⟩
  have cells : ∀ y ∈ scope.names, y.2 = .free → ∃ c, X.env.cells.lookup y.1 = some c := fun y hy e => (ok.free y hy e).elim (fun k => I.ok.has _ (.inl k)) fun k => I.ok.has _ (.inr k)
  rw [PpSet.eval_SetComp]
  refine wpAny_comprehension_free (use := none) rfl hs (closure_ok cells) ok.kind (fun y hy e => e ▸ ok.uniq y hy) ?_
  refine thn (pi.run pins s σ H _ I wk0) fun _ _ a => thn a fun _ s2 a => ?_
  obtain ⟨it, fp, tn, J, H1, rfl, I1, T, tn0, ffp, items, M1, st1, m1, wk, go⟩ := a
  refine PpSet.newSet_ok (newEnv_comp ?_)
  have free := I1.hok.fresh (Nat.le_refl s2.heap.objs.size)
  generalize eL : s2.heap.objs.size = L at free ⊢
  have nL : L ∉ F := fun z => by
    obtain ⟨_, o, q⟩ := m1.fd L z
    rw [free] at q
    cases q
  -- the state behind the new set
  generalize es : ({ s2 with heap := s2.heap.push { cls := .type "set", dict := none, data := .set #[] 0 (.fresh 0 0 (!X.w.params.followText "set-order")) } } : Shared) = s3
  have hp3 : s3.heap = s2.heap.push { cls := .type "set", dict := none, data := .set #[] 0 (.fresh 0 0 (!X.w.params.followText "set-order")) } := by rw [← es]
  have new0 : s3.heap.SetOf (mixKind X.prog X.w) L (kHas []) ([] : List Key).length := by
    rw [hp3, ← eL]
    refine ⟨_, #[], 0, _, Heap.get?_push_size _ rfl, ⟨rfl, rfl, rfl⟩, rfl, fun e he => ?_, fun k => ⟨fun z => ?_, fun ⟨e, he, _⟩ => ?_⟩, by decide, by rfl, rfl⟩
    · cases he
    · cases z
    · cases he
  have I3 : Inv X pins σ (upd H1 L (kSet X L [])) s3 := by
    have q := I1.laid (a := L) (o := kSet X L []) (h' := s3.heap) (t' := s2.toks) (fun b o e => by rw [hp3]; exact Heap.get?_push_of_some _ e) (Nat.le_of_eq eL) (setK_new new0)
    rw [← es] at q ⊢
    exact q
  have low : ∀ b ∈ fp, b < s2.heap.objs.size := fun b hb => (T.obj _ _ tn0 b hb).elim fun o q => Heap.lt_size q.1
  have f3 : ∀ b ∈ fp, FpOk X pins (upd H1 L (kSet X L [])) b ∧ b < s3.heap.objs.size := fun b hb => by
    refine ⟨⟨?_, (ffp b hb).2⟩, ?_⟩
    · rw [upd_ne (Nat.ne_of_lt (eL ▸ low b hb))]
      exact (ffp b hb).1
    · rw [hp3, Heap.size_push]
      exact Nat.lt_succ_of_lt (low b hb)
  have I4 := block_start I3 ok hN f3
  -- the block's own context
  show codeAny _ _ (.compStart (.SetComp elt [⟨tg, iter, ifs, 0⟩] scope spos) 0 (.ref it) (.ref L) (compEnvC scope (cellsFrom (s3.heap.objs.size + 1) scope.names (cloFrom X.env.cells scope.names [])) s3.heap.objs.size X.env)) (compPost (model X.prog X.w) X.A X.xe none _ (.ref L) s3.heap.objs.size) { s3 with heap := pushCells (s3.heap.push { cls := .type "dict", data := .dict #[] }) scope.names }
  generalize ecl : cellsFrom (s3.heap.objs.size + 1) scope.names (cloFrom X.env.cells scope.names []) = cl at I4 ⊢
  generalize eC : s3.heap.objs.size = C at I4 ⊢
  generalize e4 : ({ s3 with heap := pushCells (s3.heap.push { cls := .type "dict", data := .dict #[] }) scope.names } : Shared) = s4 at I4 ⊢
  have keep24 : ∀ b o, s2.heap.get? b = some o → s4.heap.get? b = some o := fun b o e => by
    rw [← e4]
    exact pushCells_keeps _ _ _ _ (Heap.get?_push_of_some _ (by rw [hp3]; exact Heap.get?_push_of_some _ e))
  generalize eH : upd H1 L (kSet X L []) = HL at I3 I4 f3
  have none0 : ∀ b ∈ fp, HL b = none := fun b hb => (f3 b hb).1.1
  have start : ScAt X F σ ds H1 M1 L g tt te (own.map (·.2)) R items 0 HL M1 [] := by
    rw [← eH]
    exact ⟨Nat.zero_le _, stp_new free, fix_hide free, m1.hide free, upd_same, ((hst.to st1 m1).sl.step (fix_hide free)), go⟩
  have pg := hg s3 HL C cl fp
  have pt : PTs _ ifs _ := ht s3 HL C cl fp
  have pe := (he s3 HL C cl fp).pe takes0
  have calmF : ∀ (H5 : Hp) (s5 : Shared) (σ5 : L2.St), Inv (X.blk s3 HL scope (compEnvC scope cl C X.env) fp) [] σ5 H5 s5 → (∀ b ∈ fp, H5 b = none) → ∀ b ∈ fp, FpOk (X.blk s3 HL scope (compEnvC scope cl C X.env) fp) [] H5 b := fun H5 s5 σ5 J5 n5 b hb =>
    ⟨n5 b hb, (J5.ok.exf b hb).1, J5.ok.exfs b hb, Or.inl hb, (J5.ok.exf b hb).2, fun p hp => absurd (show p ∈ ([] : List (Addr × Obj)) ++ [] from hp) (by simp)⟩
  have tn4 : tn 0 s4.heap := T.keep _ _ _ tn0 fun b _ => keep24 b
  have main : codeAny (model X.prog X.w) X.A (.compLoop (.SetComp elt [⟨tg, iter, ifs, 0⟩] scope spos) 0 (.ref it) (.ref L) (compEnvC scope cl C X.env)) (compPost (model X.prog X.w) X.A X.xe none (fun v s9 => ∃ L acc H9 M9, v = .ref L ∧ Inv X pins σ H9 s9 ∧ H9 L = some (kSet X L acc) ∧ Stp H (keys M) H9 (keys M9) ∧ RMM X.K F H9 M9 ∧ R acc M9) (.ref L) C) s4 := by
    refine PpSet.compLoopS_any (fun n s5 => ∃ i H5 M5 acc, n = items.length - i ∧ Inv (X.blk s3 HL scope (compEnvC scope cl C X.env) fp) [] (wipe σ (own.map (·.2))) H5 s5 ∧ tn i s5.heap ∧ (∀ b ∈ fp, H5 b = none) ∧ ScAt X F σ ds H1 M1 L g tt te (own.map (·.2)) R items i H5 M5 acc) ?_ (items.length - 0) ⟨0, HL, M1, [], rfl, I4, tn4, none0, start⟩
    rintro n s5 ⟨i, H5, M5, acc, rfl, I5, tn5, n5, S⟩
    by_cases hlt : i < items.length
    · refine thnF (T.item (X.blk s3 HL scope (compEnvC scope cl C X.env) fp) rfl rfl rfl hc i [] s5 _ H5 (fun _ _ => False) I5 (calmF _ _ _ I5 n5) tn5 (wk.go (L :: F) i H5 (keys M5) hlt S.fx)) fun r s6 a => ?_
      obtain ⟨u, rfl, a⟩ := a
      refine thnF a fun _ s7 b => ?_
      obtain ⟨x, H7, I7, ru, y7, tn7, n7⟩ := b
      have P7 := I7.pinned (calmF _ _ _ I7 n7) (T.obj _ _ tn7)
      -- behind the turn
      have next : ∀ (σ8 : L2.St) (s8 : Shared) (H8 : Hp), wipe σ8 (own.map (·.2)) = wipe σ (own.map (·.2)) → Inv (X.blk s3 HL scope (compEnvC scope cl C X.env) fp) ([] ++ pinsAt fp s7.heap) σ8 H8 s8 → ScStep X F σ ds H1 M1 L g tt te (own.map (·.2)) R items (i + 1) H8 → ∃ m, m < items.length - i ∧ ∃ i H5 M5 acc, m = items.length - i ∧ Inv (X.blk s3 HL scope (compEnvC scope cl C X.env) fp) [] (wipe σ (own.map (·.2))) H5 s8 ∧ tn i s8.heap ∧ (∀ b ∈ fp, H5 b = none) ∧ ScAt X F σ ds H1 M1 L g tt te (own.map (·.2)) R items i H5 M5 acc := by
        rintro σ8 s8 H8 ew I8 ⟨M8, acc8, S8⟩
        have stay : ∀ b ∈ fp, ∀ o, s7.heap.get? b = some o → s8.heap.get? b = some o ∧ H8 b = none := fun b hb o e => by
          have z := I8.pin (b, o) (List.mem_append_right _ (List.mem_append_right _ (mem_pinsAt hb e)))
          exact ⟨z.1, z.2.1⟩
        refine ⟨items.length - (i + 1), by omega, i + 1, H8, M8, acc8, rfl, (I8.unpinned (pins := [])).weak (by rw [← ew, wipe_length]) (fun j v e => ?_), T.keep _ _ _ tn7 fun b hb o e => (stay b hb o e).1, fun b hb => ?_, S8⟩
        · rw [← ew] at e
          exact (wipe_some e).1
        · exact (T.obj _ _ tn7 b hb).elim fun o q => (stay b hb o q.1).2
      refine thnF (pg.run _ s7 _ H7 x u _ P7 ru (S.item free hv wk hlt y7)) fun _ s8 b => ?_
      obtain ⟨σ8, H8, I8, ew, q8⟩ := b
      refine thnF (pt.run _ s8 σ8 H8 _ I8 q8) fun k s9 b => ?_
      obtain ⟨H9, I9, q9⟩ := b
      cases k with
      | false =>
        rw [if_neg Bool.false_ne_true] at q9 ⊢
        exact next σ8 s9 H9 ew I9 q9
      | true =>
        rw [if_pos rfl] at q9 ⊢
        refine thnF (pe.run _ s9 σ8 H9 _ I9 q9) fun z s10 b => ?_
        obtain ⟨yv, HA, IA, rz, k, acc2, rfl, eA, hacc, more⟩ := b
        exact kSet_add (X := X.blk s3 HL scope (compEnvC scope cl C X.env) fp) IA eA rz hacc fun s11 IB => next σ8 s11 _ ew IB more
    · have ei : i = items.length := by have := S.le; omega
      subst ei
      have fin := S.go
      rw [List.drop_length] at fin
      refine thnF (T.done (X.blk s3 HL scope (compEnvC scope cl C X.env) fp) rfl rfl rfl hc items.length [] s5 _ H5 (fun _ _ => False) I5 (calmF _ _ _ I5 n5) tn5 (wk.stop (L :: F) H5 (keys M5) S.fx)) fun r s6 a => ?_
      obtain ⟨rfl, I6⟩ := a
      have IX : Inv X pins σ H5 s6 := I3.call' (ch := fp) I6.os I6.base I6.hok I6.bare fun b hb => by
        obtain ⟨_, a1, _, a3, a4, a5⟩ := (f3 b hb).1
        exact ⟨a3, a1, a4, a5⟩
      obtain ⟨m, ns, _⟩ := I6.loc
      have fC : FpOk X pins H5 C := I3.fpOk (Nat.le_of_eq eC) I6.free
      refine ⟨m, ns, fun h9 sb => ⟨L, acc, H5, M5, rfl, ?_, S.at_, st1.trans S.st, S.mm.show, fin⟩⟩
      obtain ⟨b0, b1, _, b3, b4, b5⟩ := fC
      exact IX.turned (t' := s6.toks) (fun b o hb e => (sb.2 b hb).trans e) b0 b1 b3 b4 b5
  exact PpSet.codeAny_compStart_set main (T.self X.A 0 _ _ _ tn4 main)
/-- len of a set comprehension -/
def dLenSc (ti : TID) (g : Tgt) (tt : TTD) (te : TD) (vs : List Nat) : TD := fun ds M Z Q => ti ds M Z fun items M1 => scGo g tt te (wipeD ds vs) (fun acc M2 => Q (.int acc.length) M2) items [] M1
@[simp ↓] theorem dLenSc_eq (ti : TID) (g : Tgt) (tt : TTD) (te : TD) (vs : List Nat) : ∀ ds M Z Q, dLenSc ti g tt te vs ds M Z Q = (ti ds M Z fun items M1 => scGo g tt te (wipeD ds vs) (fun acc M2 => Q (.int acc.length) M2) items [] M1) := fun _ _ _ _ => rfl
theorem d_lenSc {elt iter : Expr} {ifs : List Expr} {scope : Scope} {own : List (Str × Nat)} {ti : TID} {g : Tgt} {tt : TTD} {te : TD} {spos p pos : Pos} (hc : X.calm = true) (hg1 : Gl X "len") (hm : X.mg "len" = none) (hN : X.N.Nodup) (hi : PID X tg iter ti) (ok : BlkOk X.N X.env.scope scope own)
    (hg : ∀ (s : Shared) (H : Hp) (C : Addr) (cl : List (Str × Addr)) (fp : List Addr), PG (X.blk s H scope (compEnvC scope cl C X.env) fp) tg (tgV X.K g)) (ht : ∀ (s : Shared) (H : Hp) (C : Addr) (cl : List (Str × Addr)) (fp : List Addr), PTsD (X.blk s H scope (compEnvC scope cl C X.env) fp) ifs tt)
    (he : ∀ (s : Shared) (H : Hp) (C : Addr) (cl : List (Str × Addr)) (fp : List Addr), PD (X.blk s H scope (compEnvC scope cl C X.env) fp) elt te) (hv : ∀ i ∈ g.slots, i ∈ own.map (·.2) := by decide) (hs : ∀ x, foldedSetIterable iter X.env x = pure x := by intro _; rfl)
    (na : starEach [.SetComp elt [⟨tg, iter, ifs, 0⟩] scope spos] X.env = (false, eval (.SetComp elt [⟨tg, iter, ifs, 0⟩] scope spos) X.env) :: starEach [] X.env := by rfl) :
    PD X (.Call (.Name "len" p) [.SetComp elt [⟨tg, iter, ifs, 0⟩] scope spos] [] pos) (dLenSc ti g tt te (own.map (·.2))) := by
  refine ⟨fun W tk F pins s σ H ds M Z Q I hst h => ?_⟩
  refine Call_ (ld_blt I hg1 hm boot_len ?_)
  refine PyProof.Rows.callWith_builtin1 (PyProof.Rows.args_cons (thn (set_run hc hN hi ok hg ht he hv hs tk I hst h) fun v s9 a => PyProof.Rows.args_nil ?_) na) na rfl
  obtain ⟨L, acc, H9, M9, rfl, I9, e9, st, mm, q⟩ := a
  obtain ⟨o, es, ep, tb, ho, hex, hd, _, _, hb, hf, hn⟩ := setK_get I9 e9
  refine call_len_set ho hex hd hf (by unfold scanBound at hb; omega) ⟨.int acc.length, H9, .int acc.length, M9, I9.tok _, ⟨_, by rw [hn]⟩, st, mm, .int _, q⟩
end
end L2.Dl

namespace L2.Dl
open PySem PySem.Spec PyProof.Rows
section
variable {X : Cx}
/-! ### xs.remove(z), texts -/
def isZ (z : Str) : Value → Bool
  | .str y _ => y.cps.toList == z.cps.toList
  | _ => false
theorem str_list {a b : Str} : (a.cps.toList == b.cps.toList) = decide (a = b) := by
  rw [Bool.eq_iff_iff, beq_iff_eq, decide_eq_true_iff]
  refine ⟨fun h => ?_, fun h => by rw [h]⟩
  cases a
  cases b
  simpa using h
theorem erase_map {α β : Type} (f : α → β) : ∀ (l : List α) (j : Nat), (l.map f).eraseIdx j = (l.eraseIdx j).map f
  | [], _ => rfl
  | _ :: _, 0 => rfl
  | a :: r, j + 1 => by
    show f a :: (r.map f).eraseIdx j = f a :: (r.eraseIdx j).map f
    rw [erase_map f r j]
theorem mt_removeS : MtR X "list.remove" (fun x xs H Q => ∃ (l : Addr) (ns : List Str) (z : Str) (j : Nat), x = .ref l ∧ xs = [.str z] ∧ H l = some (.lst (ns.map V.str)) ∧ ns[j]? = some z ∧ (∀ m : Nat, m < j → ns[m]? ≠ some z) ∧ Q .non (upd H l (.lst ((ns.eraseIdx j).map V.str)))) := by
  intro pins s σ H x xs v us Q I rx rxs h
  obtain ⟨l, ns, z, j, rfl, rfl, hH, hj, hno, q⟩ := h
  cases rx
  obtain ⟨u, rfl, t, rfl⟩ := vals1 rxs
  obtain ⟨sz, its, n, r, hl, e⟩ := I.lstM hH
  have len : its.length = ns.length := by rw [← r.length, List.length_map]
  have at' : ∀ (m : Nat) (hm : m < its.toArray.size), ∃ (h2 : m < ns.length) (t' : Tok), its.toArray[m] = Value.str ns[m] t' := fun m hm => by
    have hm' : m < ns.length := by simpa [len] using hm
    obtain ⟨w, hw, t', hw'⟩ := r.get (i := m) (x := .str ns[m]) (by simp [hm'])
    refine ⟨hm', t', ?_⟩
    rw [← hw', ← (List.getElem?_eq_some_iff.mp hw).2]
    simp
  obtain ⟨hjn, ejn⟩ := List.getElem?_eq_some_iff.mp hj
  have hjl : j < its.toArray.size := by rw [List.size_toArray, len]; exact hjn
  have gives : ∀ y ∈ its.toArray, MeetsSeq.EqGives y (.str z t) (isZ z y) := fun y hy => by
    obtain ⟨m, hm, rfl⟩ := Array.mem_iff_getElem.mp hy
    obtain ⟨_, t', e2⟩ := at' m hm
    rw [e2]
    exact SeqRoads2.EqGives.str _ z t' t
  refine call_meets PySem.F.slot_list_remove ⟨_, e, rfl⟩ PySem.F.entry_list_remove (PySem.F.args_list_remove_2 _ _) (MeetsSeq.list_remove l its.toArray n (.str z t) (isZ z) gives j hjl ?_ (fun m hm hmj => ?_) ?_) ⟨e, ?_⟩
  · obtain ⟨_, t', e2⟩ := at' j hjl
    rw [e2]
    show (ns[j].cps.toList == z.cps.toList) = true
    rw [ejn]
    exact beq_self_eq_true _
  · obtain ⟨h2, t', e2⟩ := at' m hm
    rw [e2]
    show (ns[m].cps.toList == z.cps.toList) = false
    rw [str_list]
    exact decide_eq_false fun z2 => hno m hmj (by rw [List.getElem?_eq_getElem h2, z2])
  · rw [List.size_toArray, len]
    rw [List.length_map] at sz hl
    omega
  · have rr := r.eraseIdx j
    have em : (ns.map V.str).eraseIdx j = (ns.eraseIdx j).map V.str := erase_map V.str ns j
    rw [em] at rr
    refine ⟨.non, _, I.lset (its' := its.eraseIdx j) (t' := s.toks) hH e ?_ rr ?_, rfl, q⟩
    · show its.toArray.eraseIdxIfInBounds j = _
      rw [List.eraseIdxIfInBounds_toArray]
    · have z2 := len_erase ns j
      rw [List.length_map] at sz hl ⊢
      omega
def dRemS : RMD := fun x xs M Q => match x, xs with
  | .ref p, [.str z] => lstK (M.lookup p) fun ys => optK (strsD ys) fun ns => optK (ns.findIdx? fun m => decide (m = z)) fun j => letK (put M p (.lst ((ns.eraseIdx j).map D.str))) fun M' => Q .non M'
  | _, _ => False
@[simp ↓] theorem dRemS_eq : ∀ x xs M Q, dRemS x xs M Q = (match x, xs with
  | .ref p, [.str z] => lstK (M.lookup p) fun ys => optK (strsD ys) fun ns => optK (ns.findIdx? fun m => decide (m = z)) fun j => letK (put M p (.lst ((ns.eraseIdx j).map D.str))) fun M' => Q .non M'
  | _, _ => False) := fun _ _ _ _ => rfl
theorem strs_ok {K : PySem.W.Frag} {B : List Addr} {H : Hp} : ∀ {ds : List D} {vs : List V} {ns : List Str}, RepA K B H vs ds → strsD ds = some ns → (∀ z ∈ ns, PyData.strOk z = true)
  | [], _, ns, _, e => by
    cases e
    exact fun z hz => nomatch hz
  | d :: ds, _, ns, .cons r rs, e => by
    cases d with
    | str b =>
      cases hd : strsD ds with
      | none => rw [show strsD (.str b :: ds) = (strsD ds).map (b :: ·) from rfl, hd] at e; cases e
      | some bs =>
        rw [show strsD (.str b :: ds) = (strsD ds).map (b :: ·) from rfl, hd] at e
        cases e
        cases r with
        | str _ hb =>
          intro z hz
          rcases List.mem_cons.mp hz with rfl | hz
          · exact hb
          · exact strs_ok rs hd z hz
    | _ => cases e
theorem repA_txts {K : PySem.W.Frag} {B : List Addr} {H : Hp} : ∀ {ns : List Str}, (∀ z ∈ ns, PyData.strOk z = true) → RepA K B H (ns.map V.str) (ns.map D.str)
  | [], _ => .nil
  | z :: ns, h => .cons (.str z (h z List.mem_cons_self)) (repA_txts fun y hy => h y (List.mem_cons_of_mem _ hy))
theorem m_removeS : MtD X "list.remove" dRemS := by
  refine ⟨_, mt_removeS, fun F H M x vs dx xs Q QV mm rx rp hr k => ?_⟩
  match dx, xs, hr with
  | .ref p, [.str z], hr =>
    cases rx
    obtain ⟨v, rfl, r1⟩ := repA1 rp
    cases r1
    have hr : lstK (M.lookup p) (fun ys => optK (strsD ys) fun ns => optK (ns.findIdx? fun m => decide (m = z)) fun j => Q .non (put M p (.lst ((ns.eraseIdx j).map D.str)))) := hr
    unfold lstK at hr
    split at hr
    · rename_i ys e
      obtain ⟨ns, e1, hr⟩ := optK_ex hr
      obtain ⟨j, e2, hr⟩ := optK_ex hr
      obtain ⟨ws, h1, h2⟩ := mm.get e
      have hk := lookup_key e
      have oks := strs_ok h2 e1
      rw [h2.strs e1] at h1
      rw [List.findIdx?_eq_some_iff_getElem] at e2
      obtain ⟨hj, g1, g2⟩ := e2
      have ez : ns[j] = z := of_decide_eq_true g1
      refine ⟨p, ns, z, j, rfl, rfl, h1, by rw [List.getElem?_eq_getElem hj, ez], fun m hm hz => ?_, k.put mm hk (RMM.putL hk (repA_txts fun y hy => oks y (List.mem_of_mem_eraseIdx hy))) .non hr⟩
      have hml : m < ns.length := by omega
      rw [List.getElem?_eq_getElem hml] at hz
      have := g2 m hm
      rw [Option.some.inj hz] at this
      simp at this
    · exact hr.elim
/-! ### dict(x) -/
def dDictC : RCD := fun xs M Q => match xs with
  | [.dK kvs] => Q (.dK kvs) M
  | [.ref a] => (match M.lookup a with | some (.dK kvs) => Q (.dK kvs) M | _ => False)
  | _ => False
@[simp ↓] theorem dDictC_eq : ∀ xs M Q, dDictC xs M Q = (match xs with
  | [.dK kvs] => Q (.dK kvs) M
  | [.ref a] => (match M.lookup a with | some (.dK kvs) => Q (.dK kvs) M | _ => False)
  | _ => False) := fun _ _ _ => rfl
theorem fix_new {H : Hp} {A : List Addr} {p : Addr} {o : HO} (hp : H p = none) : Fix H A (upd H p o) A := fun a u ha e => ⟨ha, by rw [upd_ne (ne_of_none e hp)]; exact e⟩
/-- a new dict that stands still -/
theorem KQ.newDK {K : PySem.W.Frag} {F : List Addr} {H : Hp} {M : MM} {Q : QD} {QV : VK} (k : KQ K F H M Q QV) (mm : RMM K F H M) {vs : List (Key × V)} {xs : List (Key × D)} (r : RepF K (ak F M) H Key vs xs) (q : Q (.dK xs) M) : ∀ p, H p = none → QV (.ref p) (upd H p (.dK vs)) := by
  intro p hp
  have np := mm.notin hp
  refine k _ _ _ M (stp_new hp) ?_ (.dK np upd_same (RepF.step (fix_new hp) r)) q
  refine ⟨mm.nd, fun a mo ha => (mm.at_ a mo ha).step (fix_new hp) ?_, fun f hf => ?_⟩
  · obtain ⟨u, e⟩ := (mm.at_ a mo ha).some
    rw [upd_ne (ne_of_none e hp)]
  · obtain ⟨h1, u, e⟩ := mm.fd f hf
    exact ⟨h1, u, by rw [upd_ne (ne_of_none e hp)]; exact e⟩
theorem k_dict : CallD X (.type "dict") dDictC := by
  refine ⟨_, call_dictD, fun F H M vs xs Q QV mm rp hr k => ?_⟩
  match xs, hr with
  | [.dK kvs], hr =>
    obtain ⟨v, rfl, r⟩ := repA1 rp
    cases r with
    | dK h1 h2 r => exact ⟨_, _, rfl, .inl h2, k.newDK mm r hr⟩
  | [.ref a], hr =>
    obtain ⟨v, rfl, r⟩ := repA1 rp
    cases r
    have hr : (match M.lookup a with | some (.dK kvs) => Q (.dK kvs) M | _ => False) := hr
    split at hr
    · rename_i kvs e
      obtain ⟨ws, h1, h2⟩ := mm.get e
      exact ⟨_, _, rfl, .inl h1, k.newDK mm h2 hr⟩
    · exact hr.elim
/-! ### either of two readings -/
variable {tg e : Expr}
theorem pd_or {t1 t2 : TD} (h1 : PD X e t1) (h2 : PD X e t2) : PD X e (fun ds M Z Q => t1 ds M Z Q ∨ t2 ds M Z Q) :=
  ⟨fun W tk F pins s σ H ds M Z Q I hs ht => ht.elim (h1.run W tk F pins s σ H ds M Z Q I hs) (h2.run W tk F pins s σ H ds M Z Q I hs)⟩
theorem pid_or {t1 t2 : TID} (h1 : PID X tg e t1) (h2 : PID X tg e t2) : PID X tg e (fun ds M Z Q => t1 ds M Z Q ∨ t2 ds M Z Q) := by
  refine ⟨fun W tk => ?_⟩
  obtain ⟨w1, p1, k1⟩ := h1.run W tk
  obtain ⟨w2, p2, k2⟩ := h2.run W tk
  refine ⟨fun σ H R => w1 σ H R ∨ w2 σ H R, ⟨fun pins s σ H R I h => h.elim (p1.run pins s σ H R I) (p2.run pins s σ H R I)⟩, fun F σ H ds M Z QI hs ht RV k => ?_⟩
  exact ht.elim (fun t => .inl (k1 F σ H ds M Z QI hs t RV k)) fun t => .inr (k2 F σ H ds M Z QI hs t RV k)
theorem pid_imp {t1 t2 : TID} (h1 : PID X tg e t1) (h : ∀ ds M Z Q, t2 ds M Z Q → t1 ds M Z Q) : PID X tg e t2 := by
  refine ⟨fun W tk => ?_⟩
  obtain ⟨w1, p1, k1⟩ := h1.run W tk
  exact ⟨w1, p1, fun F σ H ds M Z QI hs ht RV k => k1 F σ H ds M Z QI hs (h ds M Z QI ht) RV k⟩
/-- enumerate of a slot's list or tuple -/
def iEnumV (i : Nat) : TID := fun ds M Z Q => slotK ds[i]? fun d => match d with | .lst xs => Q (enumd 0 xs) M | .tup xs => Q (enumd 0 xs) M | _ => False
@[simp ↓] theorem iEnumV_eq (i : Nat) : ∀ ds M Z Q, iEnumV i ds M Z Q = (slotK ds[i]? fun d => match d with | .lst xs => Q (enumd 0 xs) M | .tup xs => Q (enumd 0 xs) M | _ => False) := fun _ _ _ _ => rfl
theorem i_enumV {p q pos tpos : Pos} {elts : List Expr} {kk i : Nat} {x : Str} (hm : X.mg "enumerate" = none) (h : PD X (.Name x q) (dVar i)) (hg : Gl X "enumerate" := by rfl) : PID X (.Tuple elts kk tpos) (.Call (.Name "enumerate" p) [.Name x q] [] pos) (iEnumV i) := by
  refine pid_imp (pid_or (i_enum hm h hg) (i_enumT hm h hg)) fun ds M Z Q ht => ?_
  unfold iEnumV slotK at ht
  split at ht
  · rename_i d e
    cases d with
    | lst xs =>
      refine .inl ?_
      show slotK ds[i]? _
      rw [e]
      exact ht
    | tup xs =>
      refine .inr ?_
      show slotK ds[i]? _
      rw [e]
      exact ht
    | _ => exact ht.elim
  · exact ht.elim
end
end L2.Dl

namespace L2.Dl
open PySem PySem.Spec PyProof.Rows
section
variable {P : Program} {w : World} {K : PySem.W.Frag} {mg : Str → Option Value} {base : Heap}
def px : Pos := ⟨0, 0, 0, 0⟩
def gS (b : List Stmt) (i : Nat) : Stmt := b.getD i (.Pass px)
def sB : Stmt → List Stmt | .For _ _ b _ _ => b | .If _ b _ _ => b | _ => []
def sO : Stmt → List Stmt | .If _ _ o _ => o | _ => []
def sE : Stmt → Expr | .Assign _ v _ => v | .Return (some v) _ => v | .If t _ _ _ => t | .Expr v _ => v | .For _ i _ _ _ => i | _ => .Constant .none 0 px
def eE (e : Expr) (k : Nat) : Expr := match e with
  | .Call _ as _ _ => as.getD k (.Constant .none 0 px)
  | .List es _ => es.getD k (.Constant .none 0 px)
  | .Tuple es _ _ => es.getD k (.Constant .none 0 px)
  | .BoolOp _ es _ => es.getD k (.Constant .none 0 px)
  | .UnaryOp _ e _ => e
  | .Compare l _ cs _ => (l :: cs).getD k (.Constant .none 0 px)
  | .IfExp a b c _ => [a, b, c].getD k (.Constant .none 0 px)
  | .Subscript v _ _ => v
  | .Attribute v _ _ => v
  | .BinOp l _ r _ => [l, r].getD k (.Constant .none 0 px)
  | .Starred v _ => v
  | _ => .Constant .none 0 px
def lP : Expr → Arguments | .Lambda p _ _ _ => p | _ => defArgs (.Pass px)
def lB : Expr → Expr | .Lambda _ b _ _ => b | _ => .Constant .none 0 px
def lS : Expr → Scope | .Lambda _ _ s _ => s | _ => defScope (.Pass px)
def eK (e : Expr) (k : Nat) : Expr := match e with
  | .Call _ _ ks _ => (ks.map (·.value)).getD k (.Constant .none 0 px)
  | _ => .Constant .none 0 px

theorem ec_InvalidWord (T : Tx P K mg) : ErrC P K (He.ga K "InvalidWord") "ValueError" "ValueError.__new__" "ValueError.__init__" [.type "ValueError", .type "Exception", .type "BaseException", .type "object"] (He.fAd K ("InvalidWord", some "__init__")) (codeA K (He.fAd K ("InvalidWord", some "__init__"))) (cellA K (He.fAd K ("InvalidWord", some "__init__"))) "InvalidWord.__init__" (defArgs s_InvalidWord) (defBody s_InvalidWord) (defScope s_InvalidWord) ∧ ExcF K (He.ga K "InvalidWord") ∧ ∀ f ∈ flds, PySem.W.findIn K (.ref (He.ga K "InvalidWord")) f = some none := errB_ok (d := d_InvalidWord) bx_V T.pf (T.fx_ 0) (T.fe_at 0 rfl) rfl (T.fx_ 1 rfl)
theorem ie_InvalidWord : IsErr1 "InvalidWord.__init__" (defArgs s_InvalidWord) (defBody s_InvalidWord) (defScope s_InvalidWord) "InvalidWord" "word" := ⟨⟨_, _, _, _, _, _, _, _, _, _, _, _, _, _, _, _, rfl, fun _ _ _ _ => ⟨_, rfl⟩⟩, fun _ _ _ _ _ _ _ _ _ _ => rfl, fun _ _ _ _ _ _ _ _ _ _ => rfl, by decide, by decide, by decide, rfl, ⟨_, rfl, rfl⟩, rfl, rfl, rfl, by decide, rfl, rfl, rfl, by decide +kernel⟩
theorem ec_InvalidLook (T : Tx P K mg) : ErrC P K (He.ga K "InvalidLook") "ValueError" "ValueError.__new__" "ValueError.__init__" [.type "ValueError", .type "Exception", .type "BaseException", .type "object"] (He.fAd K ("InvalidLook", some "__init__")) (codeA K (He.fAd K ("InvalidLook", some "__init__"))) (cellA K (He.fAd K ("InvalidLook", some "__init__"))) "InvalidLook.__init__" (defArgs s_InvalidLook) (defBody s_InvalidLook) (defScope s_InvalidLook) ∧ ExcF K (He.ga K "InvalidLook") ∧ ∀ f ∈ flds, PySem.W.findIn K (.ref (He.ga K "InvalidLook")) f = some none := errB_ok (d := d_InvalidLook) bx_V T.pf (T.fx_ 0) (T.fe_at 1 rfl) rfl (T.fx_ 2 rfl)
theorem ie_InvalidLook : IsErr1 "InvalidLook.__init__" (defArgs s_InvalidLook) (defBody s_InvalidLook) (defScope s_InvalidLook) "InvalidLook" "at" := ⟨⟨_, _, _, _, _, _, _, _, _, _, _, _, _, _, _, _, rfl, fun _ _ _ _ => ⟨_, rfl⟩⟩, fun _ _ _ _ _ _ _ _ _ _ => rfl, fun _ _ _ _ _ _ _ _ _ _ => rfl, by decide, by decide, by decide, rfl, ⟨_, rfl, rfl⟩, rfl, rfl, rfl, by decide, rfl, rfl, rfl, by decide +kernel⟩
theorem ec_Stuck (T : Tx P K mg) : ErrC P K (He.ga K "Stuck") "ValueError" "ValueError.__new__" "ValueError.__init__" [.type "ValueError", .type "Exception", .type "BaseException", .type "object"] (He.fAd K ("Stuck", some "__init__")) (codeA K (He.fAd K ("Stuck", some "__init__"))) (cellA K (He.fAd K ("Stuck", some "__init__"))) "Stuck.__init__" (defArgs s_Stuck) (defBody s_Stuck) (defScope s_Stuck) ∧ ExcF K (He.ga K "Stuck") ∧ ∀ f ∈ flds, PySem.W.findIn K (.ref (He.ga K "Stuck")) f = some none := errB_ok (d := d_Stuck) bx_V T.pf (T.fx_ 0) (T.fe_at 2 rfl) rfl (T.fx_ 3 rfl)
theorem ie_Stuck : IsErr1 "Stuck.__init__" (defArgs s_Stuck) (defBody s_Stuck) (defScope s_Stuck) "Stuck" "looks" := ⟨⟨_, _, _, _, _, _, _, _, _, _, _, _, _, _, _, _, rfl, fun _ _ _ _ => ⟨_, rfl⟩⟩, fun _ _ _ _ _ _ _ _ _ _ => rfl, fun _ _ _ _ _ _ _ _ _ _ => rfl, by decide, by decide, by decide, rfl, ⟨_, rfl, rfl⟩, rfl, rfl, rfl, by decide, rfl, rfl, rfl, by decide +kernel⟩
theorem ec_UnknownName (T : Tx P K mg) : ErrC P K (He.ga K "UnknownName") "LookupError" "LookupError.__new__" "LookupError.__init__" [.type "LookupError", .type "Exception", .type "BaseException", .type "object"] (He.fAd K ("UnknownName", some "__init__")) (codeA K (He.fAd K ("UnknownName", some "__init__"))) (cellA K (He.fAd K ("UnknownName", some "__init__"))) "UnknownName.__init__" (defArgs s_UnknownName) (defBody s_UnknownName) (defScope s_UnknownName) ∧ ExcF K (He.ga K "UnknownName") ∧ ∀ f ∈ flds, PySem.W.findIn K (.ref (He.ga K "UnknownName")) f = some none := errB_ok (d := d_UnknownName) bx_L T.pf (T.fx_ 0) (T.fe_at 3 rfl) rfl (T.fx_ 4 rfl)
theorem ie_UnknownName : IsErr1 "UnknownName.__init__" (defArgs s_UnknownName) (defBody s_UnknownName) (defScope s_UnknownName) "UnknownName" "name" := ⟨⟨_, _, _, _, _, _, _, _, _, _, _, _, _, _, _, _, rfl, fun _ _ _ _ => ⟨_, rfl⟩⟩, fun _ _ _ _ _ _ _ _ _ _ => rfl, fun _ _ _ _ _ _ _ _ _ _ => rfl, by decide, by decide, by decide, rfl, ⟨_, rfl, rfl⟩, rfl, rfl, rfl, by decide, rfl, rfl, rfl, by decide +kernel⟩
theorem ec_NothingLeft (T : Tx P K mg) : ErrC P K (He.ga K "NothingLeft") "IndexError" "IndexError.__new__" "IndexError.__init__" [.type "IndexError", .type "LookupError", .type "Exception", .type "BaseException", .type "object"] (He.fAd K ("NothingLeft", some "__init__")) (codeA K (He.fAd K ("NothingLeft", some "__init__"))) (cellA K (He.fAd K ("NothingLeft", some "__init__"))) "NothingLeft.__init__" (defArgs s_NothingLeft) (defBody s_NothingLeft) (defScope s_NothingLeft) ∧ ExcF K (He.ga K "NothingLeft") ∧ ∀ f ∈ flds, PySem.W.findIn K (.ref (He.ga K "NothingLeft")) f = some none := errB_ok (d := d_NothingLeft) bx_I T.pf (T.fx_ 0) (T.fe_at 4 rfl) rfl (T.fx_ 5 rfl)
theorem ie_NothingLeft : IsErr0 "NothingLeft.__init__" (defArgs s_NothingLeft) (defBody s_NothingLeft) (defScope s_NothingLeft) "NothingLeft" := ⟨⟨_, _, _, _, _, _, _, _, _, _, _, _, rfl, fun _ _ _ _ => ⟨_, rfl⟩⟩, fun _ _ _ _ _ _ _ _ _ => rfl, ⟨_, rfl, rfl⟩, rfl, rfl, rfl, by decide, rfl, rfl, rfl, by decide +kernel⟩
theorem xe (T : Tx P K mg) : ∀ C ∈ errs, ExcF K (He.ga K C) ∧ ∀ f ∈ flds, PySem.W.findIn K (.ref (He.ga K C)) f = some none := by
  intro C hC
  simp only [errs, List.mem_cons, List.not_mem_nil, or_false] at hC
  rcases hC with rfl | rfl | rfl | rfl | rfl
  · exact (ec_InvalidWord T).2
  · exact (ec_InvalidLook T).2
  · exact (ec_Stuck T).2
  · exact (ec_UnknownName T).2
  · exact (ec_NothingLeft T).2
theorem xf (T : Tx P K mg) {f : Str} (hf : f ∈ flds) : XfOk K errs f := fun C hC => ⟨(xe T C hC).1, (xe T C hC).2 f hf⟩

theorem io (T : Tx P K mg) : IsOk K objs errs (mroT isM isC) := by
  refine isOk_of (T.fx_ 6 rfl) (fun C hC => ?_) (fun C hC => (xe T C hC).1)
  simp only [objs, List.mem_cons, List.not_mem_nil, or_false] at hC
  rcases hC with rfl | rfl
  · exact insB_ok (T.fx_ 7 rfl)
  · exact insB_ok (T.fx_ 8 rfl)

theorem rz {X : Cx} (T : TxX X) {C : Str} (hC : C ∈ errs) : Raises X (.ref (He.ga X.K C)) := by
  refine raises_x (xe T C hC).1 ?_
  have h := List.all_eq_true.mp (T.fx_ 9 rfl) C hC
  (try dsimp only at h)
  split at h
  · rename_i n e
    rw [e, of_decide_eq_true h]
  · cases h
def okE (C : Str) : Bool := decide (C ∈ errs)
theorem exm {X : Cx} (T : TxX X) (C : Str) (hC : okE C = true) : PySem.W.exmAny X.K (.ref (He.ga X.K C)) [.ref (He.ga X.K "CardError"), .ref (He.ga X.K "Missing"), .ref (He.ga X.K "NothingLeft")] = some true := by
  have h := List.all_eq_true.mp (T.fx_ 10 rfl) C (of_decide_eq_true hC)
  (try dsimp only at h)
  split at h
  · rename_i e
    exact e
  · cases h
theorem room_hand {k : Nat} {A : Around} {v : Option Value} (h : Room k A) : Room k (cool (A.mark v)) := ⟨rfl, h.dp, h.un⟩

def N__law_bag : List Str := ["_law_script"]
theorem sc__law_bag : FnScope N__law_bag ["_law_script"] (defScope s__law_bag) := ⟨rfl, rfl, rfl, by decide +kernel, rfl, by decide +kernel, by decide +kernel⟩
theorem fd__law_bag (T : Tx P K mg) : ∃ fd, FunD K "_law_bag" "_law_bag" (defArgs s__law_bag) (defBody s__law_bag) (defScope s__law_bag) [] [] (He.fAd K ("_law_bag", none)) fd := T.says.def_ 0 (d := d__law_bag) rfl
theorem kp__law_bag (T : Tx P K mg) : PySem.W.keepIn K (.ref (He.fAd K ("_law_bag", none))) = true := (fd__law_bag T).elim fun _ F => F.kp
def t__law_bag_0 : TSD := (dRet (dLstM (dCons (dCB dListC (dCons (dSl (dVar 0) dNoPart (dPart (dC (.int 63)))) dNil)) (dCons (dC (.int 0)) (dCons (dC (.int 0)) (dCons (dC (.int 100261)) (dCons (dC (.int 0)) dNil)))))))
theorem ok__law_bag (T : Tx P K mg) {fd : FuncData} (F : FunD K "_law_bag" "_law_bag" (defArgs s__law_bag) (defBody s__law_bag) (defScope s__law_bag) [] [] (He.fAd K ("_law_bag", none)) fd) : FnOk P w K mg base (L2.CX P w) (1) (He.fAd K ("_law_bag", none)) fd ["_law_script"] (spOf K spBag) := by
  refine (fnok_newBag (fn_d (k := 0) (sp := (fun xs M Z Q => ∃ ns : List Int, xs = [.scr ns] ∧ ∀ g ys, g ∉ keys M → BagL ys → Q (.ref g) ((g, .lst ys) :: M))) (t := t__law_bag_0) F sc__law_bag (fun X cdv A outer s H E hX hr hp => by
    subst hX
    exact (s_one (s_ret (d_lstM (ad_cons (d_callTy k_list (T.free (T.says.fact 0 rfl)) bt_list (ad_cons (d_slice (d_v 0) od_none (od_some d_int)) ad_nil)) (ad_cons d_int (ad_cons d_int (ad_cons d_int (ad_cons d_int ad_nil))))))))) (fun xs M Z Q h => ?_)) (sp' := spBag) (fun xs M Z Q h => ?_))
  · obtain ⟨ns, rfl, q⟩ := h
    refine ⟨rfl, ?_⟩
    simp [N__law_bag, t__law_bag_0]
    refine ⟨size_le (by decide), fun p hp => q p _ (fun z => ?_) ⟨cutD ns none (some 63), 0, 0, 100261, 0, rfl, ?_, by decide, by decide, by decide, by decide, by decide⟩⟩
    · obtain ⟨x, hx, e⟩ := List.mem_map.mp z
      subst e
      exact hp _ hx
    · unfold cutD
      rw [List.length_take]
      have : HT.sIx ns.length ns.length (some 63) ≤ 63 := by unfold HT.sIx; simp; omega
      omega
  · obtain ⟨ns, rfl, q⟩ := h
    exact ⟨ns, rfl, fun g ys hn b => ⟨g, ys, b, hn, rfl, rfl, q g hn⟩⟩
theorem fs__law_bag (T : Tx P K mg) : FnS P w K mg base (1) (He.fAd K ("_law_bag", none)) [] (fun xs _ M Z Q => spBag xs M Z Q) := by
  obtain ⟨fd, F⟩ := fd__law_bag T
  exact fns_all (ok__law_bag T F) (F.bindsN fun _ _ _ _ _ _ us hl => match us, hl with | [_], _ => rfl)

theorem pick_leaf {M : MM} {g : Addr} {Q : QD} {n : Int} (q : ∀ r zs, 0 ≤ r → r < n → BagL zs → Q (.int r) (put M g (.lst zs))) (hn : 0 < n) {ns : List Int} (hl : ns.length ≤ 63) {x i k m c : Int} (hi : 0 ≤ i) (hk : 0 ≤ k) (hm : 0 ≤ m) (hm2 : m < 2147483579) (hc : 0 ≤ c) :
    Q (.int (x % n)) (put M g (.lst [.lst (ns.map D.int), .int i, .int k, .int m, .int c])) :=
  q _ _ (Int.emod_nonneg _ (by omega)) (Int.emod_lt_of_pos _ hn) ⟨ns, i, k, m, c, rfl, hl, hi, hk, hm, hm2, hc⟩

def N__law_pick : List Str := ["_law_bag_here", "_law_many", "_law_cell", "_law_digit", "_law_twice"]
theorem sc__law_pick : FnScope N__law_pick ["_law_bag_here", "_law_many"] (defScope s__law_pick) := ⟨rfl, rfl, rfl, by decide +kernel, rfl, by decide +kernel, by decide +kernel⟩
theorem fd__law_pick (T : Tx P K mg) : ∃ fd, FunD K "_law_pick" "_law_pick" (defArgs s__law_pick) (defBody s__law_pick) (defScope s__law_pick) [] [] (He.fAd K ("_law_pick", none)) fd := T.says.def_ 1 (d := d__law_pick) rfl
theorem kp__law_pick (T : Tx P K mg) : PySem.W.keepIn K (.ref (He.fAd K ("_law_pick", none))) = true := (fd__law_pick T).elim fun _ F => F.kp
def t__law_pick_5 : TSD := (dSetIx (dVar 0) (dC (.int 3)) (dOp dMod (dCB dIntC (dCons (dOp dAdd (dOp dAdd (dOp dMul (dOp dIx (dVar 0) (dC (.int 3))) (dC (.int 52361))) (dOp dMul (dOp dMod (dCB dIntC (dCons (dVar 2) dNil)) (dC (.int 1000003))) (dC (.int 811)))) (dC (.int 71))) dNil)) (dC (.int 2147483579))))
def t__law_pick_4 : TSD := dSeq (dSetIx (dVar 0) (dC (.int 2)) (dIf (dTest (dOp dGe (dVar 2) (dOp dPow (dC (.int 10)) (dC (.int 18))))) (dVar 2) (dC (.int 0)))) t__law_pick_5
def t__law_pick_3 : TSD := dSeq (dSetIx (dVar 0) (dC (.int 1)) (dOp dAdd (dOp dIx (dVar 0) (dC (.int 1))) (dC (.int 1)))) t__law_pick_4
def t__law_pick_2 : TSD := dSeq (dSet (dCB dAbs (dCons (dOp dIx (dOp dIx (dVar 0) (dC (.int 0))) (dOp dIx (dVar 0) (dC (.int 1)))) dNil)) 2) t__law_pick_3
def t__law_pick_9 : TSD := (dRet (dVar 3))
def t__law_pick_8 : TSD := dSeq (dSetIx (dVar 0) (dC (.int 2)) (dOp dFdiv (dOp dIx (dVar 0) (dC (.int 2))) (dVar 1))) t__law_pick_9
def t__law_pick_7 : TSD := dSeq (dSet (dOp dMod (dCB dIntC (dCons (dOp dIx (dVar 0) (dC (.int 2))) dNil)) (dVar 1)) 3) t__law_pick_8
def t__law_pick_12 : TSD := (dRet (dOp dMod (dCB dIntC (dCons (dOp dFdiv (dOp dIx (dVar 0) (dC (.int 3))) (dC (.int 67))) dNil)) (dVar 1)))
def t__law_pick_11 : TSD := dSeq (dSetIx (dVar 0) (dC (.int 3)) (dOp dMod (dCB dIntC (dCons (dOp dAdd (dOp dAdd (dOp dMul (dVar 4) (dC (.int 17077))) (dOp dMul (dOp dIx (dVar 0) (dC (.int 3))) (dC (.int 45317)))) (dC (.int 9001))) dNil)) (dC (.int 2147483579)))) t__law_pick_12
def t__law_pick_10 : TSD := dSeq (dSet (dOp dMod (dCB dIntC (dCons (dOp dAdd (dOp dMul (dOp dIx (dVar 0) (dC (.int 3))) (dOp dIx (dVar 0) (dC (.int 3)))) (dOp dMul (dOp dIx (dVar 0) (dC (.int 4))) (dC (.int 6173)))) dNil)) (dC (.int 2147483563))) 4) t__law_pick_11
def t__law_pick_6 : TSD := dSeq (dIfS (dTest (dOp dGt (dOp dIx (dVar 0) (dC (.int 2))) (dC (.int 0)))) t__law_pick_7 dNext) t__law_pick_10
def t__law_pick_1 : TSD := dSeq (dIfS (dAnd (dTest (dOp dEq (dOp dIx (dVar 0) (dC (.int 2))) (dC (.int 0)))) (dTest (dOp dLt (dOp dIx (dVar 0) (dC (.int 1))) (dCB dLen (dCons (dOp dIx (dVar 0) (dC (.int 0))) dNil))))) t__law_pick_2 dNext) t__law_pick_6
def t__law_pick_0 : TSD := dSeq (dSetIx (dVar 0) (dC (.int 4)) (dOp dAdd (dOp dIx (dVar 0) (dC (.int 4))) (dC (.int 1)))) t__law_pick_1
theorem ok__law_pick (T : Tx P K mg) {fd : FuncData} (F : FunD K "_law_pick" "_law_pick" (defArgs s__law_pick) (defBody s__law_pick) (defScope s__law_pick) [] [] (He.fAd K ("_law_pick", none)) fd) : FnOk P w K mg base (L2.CX P w) (1) (He.fAd K ("_law_pick", none)) fd ["_law_bag_here", "_law_many"] (spOf K spPick) := by
  refine (fnok_bag (fn_d (k := 0) (sp := (fun xs M Z Q => ∃ (g : Addr) (n : Int) (ys : List D), xs = [.ref g, .int n] ∧ M.lookup g = some (.lst ys) ∧ BagL ys ∧ 0 < n ∧ n ≤ 2 ^ 60 ∧ ∀ r zs, 0 ≤ r → r < n → BagL zs → Q (.int r) (put M g (.lst zs)))) (t := t__law_pick_0) F sc__law_pick (fun X cdv A outer s H E hX hr hp => by
    subst hX
    exact (s_cons (s_setIx (d_op o_add (d_ix (d_v 0) d_int) d_int) (d_v 0) d_int)
    (s_cons (s_if (PWD.pt (w_and (d_tcmp (c_eq hr.units) (d_ix (d_v 0) d_int) d_int (nomark _)) (w_and1 (d_tcmp c_lt (d_ix (d_v 0) d_int) (d_callB k_len (T.free (T.says.fact 1 rfl)) bf_len (ad_cons (d_ix (d_v 0) d_int) ad_nil)) (nomark _)))))
    (s_cons (s_set (i := 2) sc__law_pick.nd rfl (.inl rfl) (d_callB k_abs (T.free (T.says.fact 2 rfl)) bf_abs (ad_cons (d_ix (d_ix (d_v 0) d_int) (d_ix (d_v 0) d_int)) ad_nil)))
    (s_cons (s_setIx (d_op o_add (d_ix (d_v 0) d_int) d_int) (d_v 0) d_int)
    (s_cons (s_setIx (d_if (d_tcmp c_ge (d_v 2) (d_op o_pow d_int d_int) (nomark _)) (d_v 2) d_int) (d_v 0) d_int)
    (s_one (s_setIx (d_op o_mod (d_callTy k_int (T.free (T.says.fact 3 rfl)) bt_int (ad_cons (d_op o_add (d_op o_add (d_op o_mul (d_ix (d_v 0) d_int) d_int) (d_op o_mul (d_op o_mod (d_callTy k_int (T.free (T.says.fact 3 rfl)) bt_int (ad_cons (d_v 2) ad_nil)) d_int) d_int)) d_int) ad_nil)) d_int) (d_v 0) d_int)))))
    s_nil)
    (s_cons (s_if (d_tcmp c_gt (d_ix (d_v 0) d_int) d_int (nomark _))
    (s_cons (s_set (i := 3) sc__law_pick.nd rfl (.inl rfl) (d_op o_mod (d_callTy k_int (T.free (T.says.fact 3 rfl)) bt_int (ad_cons (d_ix (d_v 0) d_int) ad_nil)) (d_v 1)))
    (s_cons (s_setIx (d_op o_fdiv (d_ix (d_v 0) d_int) (d_v 1)) (d_v 0) d_int)
    (s_one (s_ret (d_v 3)))))
    s_nil)
    (s_cons (s_set (i := 4) sc__law_pick.nd rfl (.inl rfl) (d_op o_mod (d_callTy k_int (T.free (T.says.fact 3 rfl)) bt_int (ad_cons (d_op o_add (d_op o_mul (d_ix (d_v 0) d_int) (d_ix (d_v 0) d_int)) (d_op o_mul (d_ix (d_v 0) d_int) d_int)) ad_nil)) d_int))
    (s_cons (s_setIx (d_op o_mod (d_callTy k_int (T.free (T.says.fact 3 rfl)) bt_int (ad_cons (d_op o_add (d_op o_add (d_op o_mul (d_v 4) d_int) (d_op o_mul (d_ix (d_v 0) d_int) d_int)) d_int) ad_nil)) d_int) (d_v 0) d_int)
    (s_one (s_ret (d_op o_mod (d_callTy k_int (T.free (T.says.fact 3 rfl)) bt_int (ad_cons (d_op o_fdiv (d_ix (d_v 0) d_int) d_int) ad_nil)) (d_v 1)))))))))) (fun xs M Z Q h => ?_)) (sp' := spPick) (fun xs M Z Q h => ?_))
  · obtain ⟨g, n, ys, rfl, e, ⟨ns, i, k, m, c, rfl, hl, hi, hk, hm, hm2, hc⟩, hn, hn2, q⟩ := h
    refine ⟨rfl, ?_⟩
    have e2 := fun mo' => lookup_put (mo' := mo') e
    have hn3 : n ≤ 1152921504606846976 := hn2
    have hd : ∀ z : Int, 0 ≤ z → 0 ≤ z / n := fun z hz => Int.ediv_nonneg hz (by omega)
    simp [N__law_pick, t__law_pick_0, t__law_pick_1, t__law_pick_2, t__law_pick_3, t__law_pick_4, t__law_pick_5, t__law_pick_6, t__law_pick_7, t__law_pick_8, t__law_pick_9, t__law_pick_10, t__law_pick_11, t__law_pick_12, e, e2, L2.atI, ixN]
    refine cut_go ?_
    by_cases h0 : k = 0
    · by_cases h1 : i < (ns.length : Int)
      · have hlt : i.toNat < ns.length := by omega
        simp [t__law_pick_0, t__law_pick_1, t__law_pick_2, t__law_pick_3, t__law_pick_4, t__law_pick_5, t__law_pick_6, t__law_pick_7, t__law_pick_8, t__law_pick_9, t__law_pick_10, t__law_pick_11, t__law_pick_12, e, e2, L2.atI, ixN, h0, h1, hi, hlt]
        generalize ns[i.toNat] = v
        have ha : 0 ≤ (if v < 0 then -v else v) := by split <;> omega
        generalize (if v < 0 then -v else v) = a at ha ⊢
        refine cut_go ?_
        simp [t__law_pick_0, t__law_pick_1, t__law_pick_2, t__law_pick_3, t__law_pick_4, t__law_pick_5, t__law_pick_6, t__law_pick_7, t__law_pick_8, t__law_pick_9, t__law_pick_10, t__law_pick_11, t__law_pick_12, e, e2, L2.atI, ixN]
        refine cut_go ?_
        by_cases h2 : 1000000000000000000 ≤ a
        · have h3 : 0 < a := by omega
          simp [t__law_pick_0, t__law_pick_1, t__law_pick_2, t__law_pick_3, t__law_pick_4, t__law_pick_5, t__law_pick_6, t__law_pick_7, t__law_pick_8, t__law_pick_9, t__law_pick_10, t__law_pick_11, t__law_pick_12, e, e2, L2.atI, ixN, h2]
          refine cut_go ?_
          simp [t__law_pick_0, t__law_pick_1, t__law_pick_2, t__law_pick_3, t__law_pick_4, t__law_pick_5, t__law_pick_6, t__law_pick_7, t__law_pick_8, t__law_pick_9, t__law_pick_10, t__law_pick_11, t__law_pick_12, e, e2, L2.atI, ixN]
          refine cut_go ?_
          simp [t__law_pick_0, t__law_pick_1, t__law_pick_2, t__law_pick_3, t__law_pick_4, t__law_pick_5, t__law_pick_6, t__law_pick_7, t__law_pick_8, t__law_pick_9, t__law_pick_10, t__law_pick_11, t__law_pick_12, e, e2, L2.atI, ixN, h3, hn]
          refine cut_go ?_
          simp [t__law_pick_0, t__law_pick_1, t__law_pick_2, t__law_pick_3, t__law_pick_4, t__law_pick_5, t__law_pick_6, t__law_pick_7, t__law_pick_8, t__law_pick_9, t__law_pick_10, t__law_pick_11, t__law_pick_12, e, e2, L2.atI, ixN, hn, hn3]
          refine cut_go ?_
          simp [t__law_pick_0, t__law_pick_1, t__law_pick_2, t__law_pick_3, t__law_pick_4, t__law_pick_5, t__law_pick_6, t__law_pick_7, t__law_pick_8, t__law_pick_9, t__law_pick_10, t__law_pick_11, t__law_pick_12, e, e2, L2.atI, ixN]
          exact pick_leaf q hn hl (by omega) (hd a ha) (by omega) (by omega) (by omega)
        · simp [t__law_pick_0, t__law_pick_1, t__law_pick_2, t__law_pick_3, t__law_pick_4, t__law_pick_5, t__law_pick_6, t__law_pick_7, t__law_pick_8, t__law_pick_9, t__law_pick_10, t__law_pick_11, t__law_pick_12, e, e2, L2.atI, ixN, h2]
          refine cut_go ?_
          simp [t__law_pick_0, t__law_pick_1, t__law_pick_2, t__law_pick_3, t__law_pick_4, t__law_pick_5, t__law_pick_6, t__law_pick_7, t__law_pick_8, t__law_pick_9, t__law_pick_10, t__law_pick_11, t__law_pick_12, e, e2, L2.atI, ixN]
          generalize hm' : (m * 52361 + a % 1000003 * 811 + 71) % 2147483579 = m'
          have hb1 : -18446744073709551616 < m' := by omega
          have hb2 : m' < 18446744073709551616 := by omega
          refine cut_go ?_
          simp [t__law_pick_0, t__law_pick_1, t__law_pick_2, t__law_pick_3, t__law_pick_4, t__law_pick_5, t__law_pick_6, t__law_pick_7, t__law_pick_8, t__law_pick_9, t__law_pick_10, t__law_pick_11, t__law_pick_12, e, e2, L2.atI, ixN]
          refine cut_go ?_
          simp [t__law_pick_0, t__law_pick_1, t__law_pick_2, t__law_pick_3, t__law_pick_4, t__law_pick_5, t__law_pick_6, t__law_pick_7, t__law_pick_8, t__law_pick_9, t__law_pick_10, t__law_pick_11, t__law_pick_12, e, e2, L2.atI, ixN, hb1, hb2]
          refine cut_go ?_
          simp [t__law_pick_0, t__law_pick_1, t__law_pick_2, t__law_pick_3, t__law_pick_4, t__law_pick_5, t__law_pick_6, t__law_pick_7, t__law_pick_8, t__law_pick_9, t__law_pick_10, t__law_pick_11, t__law_pick_12, e, e2, L2.atI, ixN]
          refine cut_go ?_
          simp [t__law_pick_0, t__law_pick_1, t__law_pick_2, t__law_pick_3, t__law_pick_4, t__law_pick_5, t__law_pick_6, t__law_pick_7, t__law_pick_8, t__law_pick_9, t__law_pick_10, t__law_pick_11, t__law_pick_12, e, e2, L2.atI, ixN, hn]
          exact pick_leaf q hn hl (by omega) (by omega) (by omega) (by omega) (by omega)
      · have hb1 : -18446744073709551616 < m := by omega
        have hb2 : m < 18446744073709551616 := by omega
        simp [t__law_pick_0, t__law_pick_1, t__law_pick_2, t__law_pick_3, t__law_pick_4, t__law_pick_5, t__law_pick_6, t__law_pick_7, t__law_pick_8, t__law_pick_9, t__law_pick_10, t__law_pick_11, t__law_pick_12, e, e2, L2.atI, ixN, h0, h1]
        refine cut_go ?_
        simp [t__law_pick_0, t__law_pick_1, t__law_pick_2, t__law_pick_3, t__law_pick_4, t__law_pick_5, t__law_pick_6, t__law_pick_7, t__law_pick_8, t__law_pick_9, t__law_pick_10, t__law_pick_11, t__law_pick_12, e, e2, L2.atI, ixN]
        refine cut_go ?_
        simp [t__law_pick_0, t__law_pick_1, t__law_pick_2, t__law_pick_3, t__law_pick_4, t__law_pick_5, t__law_pick_6, t__law_pick_7, t__law_pick_8, t__law_pick_9, t__law_pick_10, t__law_pick_11, t__law_pick_12, e, e2, L2.atI, ixN, hb1, hb2]
        refine cut_go ?_
        simp [t__law_pick_0, t__law_pick_1, t__law_pick_2, t__law_pick_3, t__law_pick_4, t__law_pick_5, t__law_pick_6, t__law_pick_7, t__law_pick_8, t__law_pick_9, t__law_pick_10, t__law_pick_11, t__law_pick_12, e, e2, L2.atI, ixN]
        refine cut_go ?_
        simp [t__law_pick_0, t__law_pick_1, t__law_pick_2, t__law_pick_3, t__law_pick_4, t__law_pick_5, t__law_pick_6, t__law_pick_7, t__law_pick_8, t__law_pick_9, t__law_pick_10, t__law_pick_11, t__law_pick_12, e, e2, L2.atI, ixN, hn]
        exact pick_leaf q hn hl (by omega) (by omega) (by omega) (by omega) (by omega)
    · have h2 : 0 < k := by omega
      simp [t__law_pick_0, t__law_pick_1, t__law_pick_2, t__law_pick_3, t__law_pick_4, t__law_pick_5, t__law_pick_6, t__law_pick_7, t__law_pick_8, t__law_pick_9, t__law_pick_10, t__law_pick_11, t__law_pick_12, e, e2, L2.atI, ixN, h0]
      refine cut_go ?_
      simp [t__law_pick_0, t__law_pick_1, t__law_pick_2, t__law_pick_3, t__law_pick_4, t__law_pick_5, t__law_pick_6, t__law_pick_7, t__law_pick_8, t__law_pick_9, t__law_pick_10, t__law_pick_11, t__law_pick_12, e, e2, L2.atI, ixN, h2, hn]
      refine cut_go ?_
      simp [t__law_pick_0, t__law_pick_1, t__law_pick_2, t__law_pick_3, t__law_pick_4, t__law_pick_5, t__law_pick_6, t__law_pick_7, t__law_pick_8, t__law_pick_9, t__law_pick_10, t__law_pick_11, t__law_pick_12, e, e2, L2.atI, ixN, hn, hn3]
      refine cut_go ?_
      simp [t__law_pick_0, t__law_pick_1, t__law_pick_2, t__law_pick_3, t__law_pick_4, t__law_pick_5, t__law_pick_6, t__law_pick_7, t__law_pick_8, t__law_pick_9, t__law_pick_10, t__law_pick_11, t__law_pick_12, e, e2, L2.atI, ixN]
      exact pick_leaf q hn hl (by omega) (hd k hk) (by omega) (by omega) (by omega)
  · obtain ⟨g, n, rfl, e, hn, hn2, q⟩ := h
    exact ⟨g, e, fun ds b => ⟨g, n, ds, rfl, lookup_put e, b, hn, hn2, fun r zs h0 h1 bz => ⟨zs, bz, by rw [put_put], q r h0 h1⟩⟩⟩
theorem fs__law_pick (T : Tx P K mg) : FnS P w K mg base (1) (He.fAd K ("_law_pick", none)) [] (fun xs _ M Z Q => spPick xs M Z Q) := by
  obtain ⟨fd, F⟩ := fd__law_pick T
  exact fns_all (ok__law_pick T F) (F.bindsN fun _ _ _ _ _ _ us hl => match us, hl with | [_, _], _ => rfl)

def N__law_of : List Str := ["_law_bag_here", "_law_things"]
theorem sc__law_of : FnScope N__law_of ["_law_bag_here", "_law_things"] (defScope s__law_of) := ⟨rfl, rfl, rfl, by decide +kernel, rfl, by decide +kernel, by decide +kernel⟩
theorem fd__law_of (T : Tx P K mg) : ∃ fd, FunD K "_law_of" "_law_of" (defArgs s__law_of) (defBody s__law_of) (defScope s__law_of) [] [] (He.fAd K ("_law_of", none)) fd := T.says.def_ 2 (d := d__law_of) rfl
theorem kp__law_of (T : Tx P K mg) : PySem.W.keepIn K (.ref (He.fAd K ("_law_of", none))) = true := (fd__law_of T).elim fun _ F => F.kp
def t__law_of_0 : TSD := (dRet (dOp dIx (dVar 1) (dCallS (fun xs _ M Z Q => spPick xs M Z Q) (dCons (dVar 0) (dCons (dCB dLen (dCons (dVar 1) dNil)) dNil)) dNil)))
theorem ok__law_of (T : Tx P K mg) {fd : FuncData} (F : FunD K "_law_of" "_law_of" (defArgs s__law_of) (defBody s__law_of) (defScope s__law_of) [] [] (He.fAd K ("_law_of", none)) fd) : FnOk P w K mg base (L2.CX P w) (2) (He.fAd K ("_law_of", none)) fd ["_law_bag_here", "_law_things"] (spOf K spOfD) := by
  refine (fn_d (k := 1) (sp := spOfD) (t := t__law_of_0) F sc__law_of (fun X cdv A outer s H E hX hr hp => by
    subst hX
    exact (s_one (s_ret (d_ix (d_v 1) (d_call (cal_fn (fs__law_pick T) (hr.mono (by omega))) (kp__law_pick T) (T.glo (T.says.fact 4 rfl)) (ad_cons (d_v 0) (ad_cons (d_callB k_len (T.free (T.says.fact 1 rfl)) bf_len (ad_cons (d_v 1) ad_nil)) ad_nil))))))) (fun xs M Z Q h => ?_))
  obtain ⟨g, d, ys, rfl, hg, hi, h0, hl, q⟩ := h
  refine ⟨rfl, ?_⟩
  simp [N__law_of, t__law_of_0, -dLen_eq, -dIx_eq]
  refine itemsOf_len hi hl ⟨g, _, rfl, hg, by omega, by omega, fun r h1 h2 => itemsOf_ix hi hl h1 h2 q⟩
theorem fs__law_of (T : Tx P K mg) : FnS P w K mg base (2) (He.fAd K ("_law_of", none)) [] (fun xs _ M Z Q => spOfD xs M Z Q) := by
  obtain ⟨fd, F⟩ := fd__law_of T
  exact fns_all (ok__law_of T F) (F.bindsN fun _ _ _ _ _ _ us hl => match us, hl with | [_, _], _ => rfl)

def N__law_like : List Str := ["_law_found", "_law_due", "_law_one", "_law_other"]
theorem sc__law_like : FnScope N__law_like ["_law_found", "_law_due"] (defScope s__law_like) := ⟨rfl, rfl, rfl, by decide +kernel, rfl, by decide +kernel, by decide +kernel⟩
theorem fd__law_like (T : Tx P K mg) : ∃ fd, FunD K "_law_like" "_law_like" (defArgs s__law_like) (defBody s__law_like) (defScope s__law_like) [] [] (He.fAd K ("_law_like", none)) fd := T.says.def_ 3 (d := d__law_like) rfl
theorem kp__law_like (T : Tx P K mg) : PySem.W.keepIn K (.ref (He.fAd K ("_law_like", none))) = true := (fd__law_like T).elim fun _ F => F.kp
def t__law_like_2 (n : Nat) : TSD := (dRet (dC (.bl false)))
def t__law_like_3 (n : Nat) : TSD := (dRet (dAndV (dOp dEq (dCB dLen (dCons (dVar 0) dNil)) (dCB dLen (dCons (dVar 1) dNil))) (dCB (dAllG fun bs => bs.all id) (dCons (dLc (iZipD (dVar 0) (dVar 1)) (.tup [2, 3]) dYes (dCallS (fun xs _ M Z Q => likeSp' n xs M Z Q) (dCons (dVar 2) (dCons (dVar 3) dNil)) dNil) [2, 3]) dNil))))
def t__law_like_1 (n : Nat) : TSD := dSeq (dIfS (dOr (dTest (dOp dNe (dCB dIsi (dCons (dVar 0) (dCons (dC (.ty "list")) dNil))) (dCB dIsi (dCons (dVar 1) (dCons (dC (.ty "list")) dNil))))) (dTest (dOp dNe (dCB dIsi (dCons (dVar 0) (dCons (dC (.ty "tuple")) dNil))) (dCB dIsi (dCons (dVar 1) (dCons (dC (.ty "tuple")) dNil)))))) (t__law_like_2 n) dNext) (t__law_like_3 n)
def t__law_like_5 (n : Nat) : TSD := (dRet (dAndV (dOp dIs (dVar 1) (dC .non)) (dOp dIs (dVar 0) (dC .non))))
def t__law_like_7 (n : Nat) : TSD := (dRet (dC (.bl false)))
def t__law_like_8 (n : Nat) : TSD := (dRet (dAndV (dOp dEq (dCB dIsi (dCons (dVar 0) (dCons (dC (.ty "str")) dNil))) (dCB dIsi (dCons (dVar 1) (dCons (dC (.ty "str")) dNil)))) (dOp dEq (dVar 0) (dVar 1))))
def t__law_like_6 (n : Nat) : TSD := dSeq (dIfS (dOr (dTest (dOp dNe (dCB dIsi (dCons (dVar 0) (dCons (dC (.ty "bool")) dNil))) (dCB dIsi (dCons (dVar 1) (dCons (dC (.ty "bool")) dNil))))) (dTest (dOp dNe (dCB dIsi (dCons (dVar 0) (dCons (dC (.ty "int")) dNil))) (dCB dIsi (dCons (dVar 1) (dCons (dC (.ty "int")) dNil)))))) (t__law_like_7 n) dNext) (t__law_like_8 n)
def t__law_like_4 (n : Nat) : TSD := dSeq (dIfS (dOr (dTest (dOp dIs (dVar 1) (dC .non))) (dTest (dOp dIs (dVar 0) (dC .non)))) (t__law_like_5 n) dNext) (t__law_like_6 n)
def t__law_like_0 (n : Nat) : TSD := dSeq (dIfS (dTest (dCB dIsi (dCons (dVar 1) (dCons (dTup (dCons (dC (.ty "list")) (dCons (dC (.ty "tuple")) dNil))) dNil)))) (t__law_like_1 n) dNext) (t__law_like_4 n)
theorem ok_like_step (T : Tx P K mg) (n : Nat) (ih : FnS P w K mg base n (He.fAd K ("_law_like", none)) [] (fun xs _ M Z Q => likeSp' n xs M Z Q)) {fd : FuncData} (F : FunD K "_law_like" "_law_like" (defArgs s__law_like) (defBody s__law_like) (defScope s__law_like) [] [] (He.fAd K ("_law_like", none)) fd) : FnOk P w K mg base (L2.CX P w) (n + 1) (He.fAd K ("_law_like", none)) fd ["_law_found", "_law_due"] (spOf K (likeSp n)) := by
  refine (fn_d (k := n) (sp := (likeSp n)) (t := (t__law_like_0 n)) F sc__law_like (fun X cdv A outer s H E hX hr hp => by
    subst hX
    exact (s_cons (s_if (d_tval (d_callB k_isi (T.free (T.says.fact 6 rfl)) bf_isinstance (ad_cons (d_v 1) (ad_cons (d_tup (ad_cons (d_ty (T.free (T.says.fact 0 rfl)) bt_list) (ad_cons (d_ty (T.free (T.says.fact 5 rfl)) bt_tuple) ad_nil))) ad_nil))))
    (s_cons (s_if (PWD.pt (w_or (d_tcmp (c_ne hr.units) (d_callB k_isi (T.free (T.says.fact 6 rfl)) bf_isinstance (ad_cons (d_v 0) (ad_cons (d_ty (T.free (T.says.fact 0 rfl)) bt_list) ad_nil))) (d_callB k_isi (T.free (T.says.fact 6 rfl)) bf_isinstance (ad_cons (d_v 1) (ad_cons (d_ty (T.free (T.says.fact 0 rfl)) bt_list) ad_nil))) (nomark _)) (w_or1 (d_tcmp (c_ne hr.units) (d_callB k_isi (T.free (T.says.fact 6 rfl)) bf_isinstance (ad_cons (d_v 0) (ad_cons (d_ty (T.free (T.says.fact 5 rfl)) bt_tuple) ad_nil))) (d_callB k_isi (T.free (T.says.fact 6 rfl)) bf_isinstance (ad_cons (d_v 1) (ad_cons (d_ty (T.free (T.says.fact 5 rfl)) bt_tuple) ad_nil))) (nomark _)))))
    (s_one (s_ret d_bl))
    s_nil)
    (s_one (s_ret (d_and (d_cmp (c_eq hr.units) (d_callB k_len (T.free (T.says.fact 1 rfl)) bf_len (ad_cons (d_v 0) ad_nil)) (d_callB k_len (T.free (T.says.fact 1 rfl)) bf_len (ad_cons (d_v 1) ad_nil)) (nomark _)) (d_one (d_callB (k_all rfl) (T.free (T.says.fact 9 rfl)) bf_all (ad_cons (d_lc (own := [("_law_one", 2), ("_law_other", 3)]) (g := .tup [2, 3]) rfl sc__law_like.nd (i_zip (T.free (T.says.fact 7 rfl)) (d_v 0) (d_v 1)) (blkOk_by (own := [("_law_one", 2), ("_law_other", 3)]) (N := N__law_like) (sc := defScope s__law_like) (by decide +kernel))
      (fun _ _ _ _ _ => pg_tup rfl (pgs_cons (pg_name (i := 2) sc__law_like.nd rfl (Or.inl rfl)) (pgs_cons (pg_name (i := 3) sc__law_like.nd rfl (Or.inl rfl)) pgs_nil))) (fun _ _ _ _ _ => ts_nil) (fun _ _ _ _ _ => (d_call (cal_fn ih (hr.mono (by omega))) (kp__law_like T) (T.glo (T.says.fact 8 rfl)) (ad_cons (d_v 2) (ad_cons (d_v 3) ad_nil))))) ad_nil)))))))
    s_nil)
    (s_cons (s_if (PWD.pt (w_or (d_tcmp c_is (d_v 1) d_non (nomark _)) (w_or1 (d_tcmp c_is (d_v 0) d_non (nomark _)))))
    (s_one (s_ret (d_and (d_cmp c_is (d_v 1) d_non (nomark _)) (d_one (d_cmp c_is (d_v 0) d_non (nomark _))))))
    s_nil)
    (s_cons (s_if (PWD.pt (w_or (d_tcmp (c_ne hr.units) (d_callB k_isi (T.free (T.says.fact 6 rfl)) bf_isinstance (ad_cons (d_v 0) (ad_cons (d_ty (T.free (T.says.fact 10 rfl)) bt_bool) ad_nil))) (d_callB k_isi (T.free (T.says.fact 6 rfl)) bf_isinstance (ad_cons (d_v 1) (ad_cons (d_ty (T.free (T.says.fact 10 rfl)) bt_bool) ad_nil))) (nomark _)) (w_or1 (d_tcmp (c_ne hr.units) (d_callB k_isi (T.free (T.says.fact 6 rfl)) bf_isinstance (ad_cons (d_v 0) (ad_cons (d_ty (T.free (T.says.fact 3 rfl)) bt_int) ad_nil))) (d_callB k_isi (T.free (T.says.fact 6 rfl)) bf_isinstance (ad_cons (d_v 1) (ad_cons (d_ty (T.free (T.says.fact 3 rfl)) bt_int) ad_nil))) (nomark _)))))
    (s_one (s_ret d_bl))
    s_nil)
    (s_one (s_ret (d_and (d_cmp (c_eq hr.units) (d_callB k_isi (T.free (T.says.fact 6 rfl)) bf_isinstance (ad_cons (d_v 0) (ad_cons (d_ty (T.free (T.says.fact 11 rfl)) bt_str) ad_nil))) (d_callB k_isi (T.free (T.says.fact 6 rfl)) bf_isinstance (ad_cons (d_v 1) (ad_cons (d_ty (T.free (T.says.fact 11 rfl)) bt_str) ad_nil))) (nomark _)) (d_one (d_cmp (c_eq hr.units) (d_v 0) (d_v 1) (nomark _)))))))))) (fun xs M Z Q h => ?_))
  obtain ⟨d, rfl, hd, q⟩ := h
  refine ⟨rfl, ?_⟩
  cases d with
  | lst xs =>
    cases n with
    | zero => cases hd
    | succ n =>
      have hd := Bool.and_eq_true_iff.mp (show (decide (xs.length ≤ 100000) && xs.all (plainD n)) = true from hd)
      have hl := of_decide_eq_true hd.1
      simp [N__law_like, sizeLine_eq, cut_eq, t__law_like_0, t__law_like_1, t__law_like_2, t__law_like_3, t__law_like_4, t__law_like_5, t__law_like_6, t__law_like_7, t__law_like_8]
      refine lc_map (fun _ => .bl true) _ _ (fun x hx => ?_) (by rw [sizeLine_eq]; simp [zipd_len]; omega) ?_
      · obtain ⟨d, hm, rfl⟩ := zipd_self hx
        exact ⟨_, rfl, fun Q' q => ⟨d, rfl, List.all_eq_true.mp hd.2 d hm, q⟩⟩
      · simp [boolsD_of (fun _ => true)]
        rw [List.all_eq_true.mpr fun _ _ => rfl]
        exact q
  | tup xs =>
    cases n with
    | zero => cases hd
    | succ n =>
      have hd := Bool.and_eq_true_iff.mp (show (decide (xs.length ≤ 100000) && xs.all (plainD n)) = true from hd)
      have hl := of_decide_eq_true hd.1
      simp [N__law_like, sizeLine_eq, cut_eq, t__law_like_0, t__law_like_1, t__law_like_2, t__law_like_3, t__law_like_4, t__law_like_5, t__law_like_6, t__law_like_7, t__law_like_8]
      refine lc_map (fun _ => .bl true) _ _ (fun x hx => ?_) (by rw [sizeLine_eq]; simp [zipd_len]; omega) ?_
      · obtain ⟨d, hm, rfl⟩ := zipd_self hx
        exact ⟨_, rfl, fun Q' q => ⟨d, rfl, List.all_eq_true.mp hd.2 d hm, q⟩⟩
      · simp [boolsD_of (fun _ => true)]
        rw [List.all_eq_true.mpr fun _ _ => rfl]
        exact q
  | non => simpa [N__law_like, sizeLine_eq, cut_eq, t__law_like_0, t__law_like_1, t__law_like_2, t__law_like_3, t__law_like_4, t__law_like_5, t__law_like_6, t__law_like_7, t__law_like_8] using q
  | bl b => simpa [N__law_like, sizeLine_eq, cut_eq, t__law_like_0, t__law_like_1, t__law_like_2, t__law_like_3, t__law_like_4, t__law_like_5, t__law_like_6, t__law_like_7, t__law_like_8] using q
  | int i => simpa [N__law_like, sizeLine_eq, cut_eq, t__law_like_0, t__law_like_1, t__law_like_2, t__law_like_3, t__law_like_4, t__law_like_5, t__law_like_6, t__law_like_7, t__law_like_8] using q
  | str x => simpa [N__law_like, sizeLine_eq, cut_eq, t__law_like_0, t__law_like_1, t__law_like_2, t__law_like_3, t__law_like_4, t__law_like_5, t__law_like_6, t__law_like_7, t__law_like_8] using q
  | _ => cases n <;> cases hd
theorem like_step (T : Tx P K mg) (n : Nat) (ih : FnS P w K mg base n (He.fAd K ("_law_like", none)) [] (fun xs _ M Z Q => likeSp' n xs M Z Q)) : FnS P w K mg base (n + 1) (He.fAd K ("_law_like", none)) [] (fun xs _ M Z Q => (likeSp n) xs M Z Q) := by
  obtain ⟨fd, F⟩ := fd__law_like T
  exact fns_all (ok_like_step T n ih F) (F.bindsN fun _ _ _ _ _ _ us hl => match us, hl with | [_, _], _ => rfl)


end
end L2.Dl
namespace L2.Dl
open PySem PySem.Spec PyProof.Rows
section
variable {P : Program} {w : World} {K : PySem.W.Frag} {mg : Str → Option Value} {base : Heap}
theorem fs__law_like (T : Tx P K mg) (n : Nat) : FnS P w K mg base (n + 1) (He.fAd K ("_law_like", none)) [] (fun xs _ M Z Q => likeSp n xs M Z Q) := by
  induction n with
  | zero => exact like_step T 0 (fun A outer s H us ws vs zs F xs ys M Z QD Q E hr e0 r1 r2 l mm a b q => q.elim)
  | succ n ih => exact like_step T (n + 1) ih

def LET : Str := "abcdefghijklmnopqrstuvwxyz"
def FIG : Str := "0123456789"
def inS (z : Str) (c : Nat) : Bool := decide (c ∈ z.cps.toList)
def nameS (z : Str) : Bool := decide (1 ≤ z.length) && decide (z.length ≤ 8) && z.cps.toList.all (inS LET)
def wordS (z : Str) : Bool := decide (1 ≤ z.length) && decide (z.length ≤ 40) && z.cps.toList.all fun c => inS LET c || inS FIG c
def nameD : D → Bool
  | .str z => nameS z
  | _ => false
def wordD : D → Bool
  | .str z => wordS z
  | _ => false
def numD (d : D) (lo hi : Int) : Bool := match d with
  | .int i => decide (lo ≤ i) && decide (i ≤ hi)
  | _ => false
/-- a value of a known kind, no endless text -/
def fitD : D → Prop
  | .str z => z.length ≤ 100000
  | .non => True | .bl _ => True | .int _ => True | .lst _ => True | .tup _ => True
  | _ => False
def spName : SpD := fun xs M Z Q => ∃ d, xs = [d] ∧ fitD d ∧ Q (.bl (nameD d)) M
def spWord : SpD := fun xs M Z Q => ∃ d, xs = [d] ∧ fitD d ∧ Q (.bl (wordD d)) M
def spNumber : SpD := fun xs M Z Q => ∃ d lo hi, xs = [d, .int lo, .int hi] ∧ fitD d ∧ Q (.bl (numD d lo hi)) M
theorem all_signs (z : Str) (p : Nat → Bool) (f : D → D) (hf : ∀ c, f (.str ⟨#[c]⟩) = .bl (p c)) : boolsD ((signs z).map f) = some (z.cps.toList.map p) := by
  unfold signs
  rw [List.map_map]
  have e : (f ∘ fun c => D.str ⟨#[c]⟩) = fun c => D.bl (p c) := funext hf
  rw [e]
  exact boolsD_of p _

def N_is_word : List Str := ["value", "sign"]
theorem sc_is_word : FnScope N_is_word ["value"] (defScope s_is_word) := ⟨rfl, rfl, rfl, by decide +kernel, rfl, by decide +kernel, by decide +kernel⟩
theorem fd_is_word (T : Tx P K mg) : ∃ fd, FunD K "is_word" "is_word" (defArgs s_is_word) (defBody s_is_word) (defScope s_is_word) [] [] (He.fAd K ("is_word", none)) fd := T.says.def_ 4 (d := d_is_word) rfl
theorem kp_is_word (T : Tx P K mg) : PySem.W.keepIn K (.ref (He.fAd K ("is_word", none))) = true := (fd_is_word T).elim fun _ F => F.kp
def t_is_word_1 : TSD := (dRet (dC (.bl false)))
def t_is_word_2 : TSD := (dRet (dCB (dAllG fun bs => bs.all id) (dCons (dLc (iS (dVar 0)) (.one 1) dYes (dOrV (dOp (dInG id) (dVar 1) (dC (.str "abcdefghijklmnopqrstuvwxyz"))) (dOp (dInG id) (dVar 1) (dC (.str "0123456789")))) [1]) dNil)))
def t_is_word_0 : TSD := dSeq (dIfS (dOr (dNot (dTest (dCB dIsi (dCons (dVar 0) (dCons (dC (.ty "str")) dNil))))) (dNot (dTest (dChain dLe dLe (dC (.int 1)) (dCB dLen (dCons (dVar 0) dNil)) (dC (.int 40)))))) t_is_word_1 dNext) t_is_word_2
theorem ok_is_word (T : Tx P K mg) {fd : FuncData} (F : FunD K "is_word" "is_word" (defArgs s_is_word) (defBody s_is_word) (defScope s_is_word) [] [] (He.fAd K ("is_word", none)) fd) : FnOk P w K mg base (L2.CX P w) (1) (He.fAd K ("is_word", none)) fd ["value"] (spOf K spWord) := by
  refine (fn_d (k := 0) (sp := spWord) (t := t_is_word_0) F sc_is_word (fun X cdv A outer s H E hX hr hp => by
    subst hX
    exact (s_cons (s_if (PWD.pt (w_or (t_not (d_tval (d_callB k_isi (T.free (T.says.fact 6 rfl)) bf_isinstance (ad_cons (d_v 0) (ad_cons (d_ty (T.free (T.says.fact 11 rfl)) bt_str) ad_nil))))) (w_or1 (t_not (d_tchain c_le c_le d_int (d_callB k_len (T.free (T.says.fact 1 rfl)) bf_len (ad_cons (d_v 0) ad_nil)) (d_globI (T.int (T.says.fact 12 rfl))))))))
    (s_one (s_ret d_bl))
    s_nil)
    (s_one (s_ret (d_callB (k_all rfl) (T.free (T.says.fact 9 rfl)) bf_all (ad_cons (d_lc (own := [("sign", 1)]) (g := .one 1) rfl sc_is_word.nd (i_str (d_v 0)) (blkOk_by (own := [("sign", 1)]) (N := N_is_word) (sc := defScope s_is_word) (by decide +kernel))
      (fun _ _ _ _ _ => pg_name (i := 1) sc_is_word.nd rfl (Or.inl rfl)) (fun _ _ _ _ _ => ts_nil) (fun _ _ _ _ _ => (d_or (d_cmp (c_in (hu65 hr)) (d_v 1) (d_globS (T.str (T.says.fact 14 rfl))) rfl) (d_one (d_cmp (c_in (hu65 hr)) (d_v 1) (d_globS (T.str (T.says.fact 13 rfl))) rfl))))) ad_nil)))))) (fun xs M Z Q h => ?_))
  obtain ⟨d, rfl, hd, q⟩ := h
  refine ⟨rfl, ?_⟩
  cases d with
  | str z =>
    have hd : z.length ≤ 100000 := hd
    have hs := size_le hd
    simp only [nameD, wordD, wordS] at q
    by_cases h1 : 1 ≤ z.length
    · by_cases h2 : z.length ≤ 40
      · have i1 : 1 ≤ (z.length : Int) := by omega
        have i2 : (z.length : Int) ≤ 40 := by omega
        have j1 : ¬ (z.length : Int) < 1 := by omega
        have j2 : ¬ (40 : Int) < z.length := by omega
        simp [N_is_word, cut_eq, t_is_word_0, t_is_word_1, t_is_word_2, hs, i1, i2, j1, j2]
        refine lc_signs (fun c => inS LET c || inS FIG c) (fun c _ => ⟨_, rfl, fun Q' q => ?_⟩) hd ?_
        · simp [inS, LET, FIG] at q ⊢
          split <;> simp_all
        · simpa [h1, h2] using q
      · have i1 : 1 ≤ (z.length : Int) := by omega
        have i2 : ¬ (z.length : Int) ≤ 40 := by omega
        have j1 : ¬ (z.length : Int) < 1 := by omega
        have j2 : (40 : Int) < z.length := by omega
        simp [N_is_word, cut_eq, t_is_word_0, t_is_word_1, t_is_word_2, hs, i1, i2, j1, j2]
        simpa [h1, h2] using q
    · have i1 : ¬ 1 ≤ (z.length : Int) := by omega
      have j1 : (z.length : Int) < 1 := by omega
      simp [N_is_word, cut_eq, t_is_word_0, t_is_word_1, t_is_word_2, hs, i1, j1]
      simpa [h1] using q
  | _ => first | (exact hd.elim) | (simpa [N_is_word, cut_eq, t_is_word_0, t_is_word_1, t_is_word_2, nameD, wordD] using q)
theorem fs_is_word (T : Tx P K mg) : FnS P w K mg base (1) (He.fAd K ("is_word", none)) [] (fun xs _ M Z Q => spWord xs M Z Q) := by
  obtain ⟨fd, F⟩ := fd_is_word T
  exact fns_all (ok_is_word T F) (F.bindsN fun _ _ _ _ _ _ us hl => match us, hl with | [_], _ => rfl)

theorem optK_at {α : Type} {o : Option α} {a : α} {k : α → Prop} (h : o = some a) (q : k a) : optK o k := by rw [h]; exact q
def eTab : List (Str × Option Str) := [("InvalidWord", some "word"), ("InvalidLook", some "at"), ("Stuck", some "looks"), ("UnknownName", some "name"), ("NothingLeft", none)]
def exnF (p : Str × Option Str) (v : D) : List (Str × D) := match p.2 with | some f => [("code", .str p.1), (f, v)] | none => [("code", .str p.1)]
def fldOf (p : Str × Option Str) (v : D) : D := match p.2 with | some _ => v | none => .non
def spField : SpD := fun xs M Z Q => ∃ p ∈ eTab, ∃ v, xs = [.exn p.1 (exnF p v)] ∧ Q (fldOf p v) M
/-- an error that is caught and told -/
def zAsk (Q : QD) : XD := fun C fs M => ∃ p ∈ eTab, ∃ v, C = p.1 ∧ fs = exnF p v ∧ Q (.tup [.str p.1, fldOf p v]) M
def spAsk : SpA := fun vs0 ds0 mean xs M Z Q => ∃ o, xs = [.act o vs0 ds0] ∧ mean o M (zAsk Q) (fun d M' => Q (.tup [.str "", d]) M')
def asksGo (mean : Mean) : List (Unit → Obj) → List D → MM → QD → Prop
  | [], acc, M, Q => Q (.lst acc) M
  | o :: os, acc, M, Q => mean o M (zAsk fun d M' => asksGo mean os (acc ++ [d]) M' Q) (fun d M' => asksGo mean os (acc ++ [.tup [.str "", d]]) M' Q)
def spAsks : SpA := fun vs0 ds0 mean xs M Z Q => ∃ os : List (Unit → Obj), xs = [.lst (os.map fun o => .act o vs0 ds0)] ∧ os.length ≤ 1000 ∧ asksGo mean os [] M Q
theorem tab_errs : ∀ p ∈ eTab, p.1 ∈ errs := by decide
theorem za_InvalidWord {v : D} {Q : QD} {M : MM} (q : Q (.tup [.str "InvalidWord", v]) M) : zAsk Q "InvalidWord" [("code", .str "InvalidWord"), ("word", v)] M := ⟨("InvalidWord", some "word"), by decide, v, rfl, rfl, q⟩
theorem za_InvalidLook {v : D} {Q : QD} {M : MM} (q : Q (.tup [.str "InvalidLook", v]) M) : zAsk Q "InvalidLook" [("code", .str "InvalidLook"), ("at", v)] M := ⟨("InvalidLook", some "at"), by decide, v, rfl, rfl, q⟩
theorem za_Stuck {v : D} {Q : QD} {M : MM} (q : Q (.tup [.str "Stuck", v]) M) : zAsk Q "Stuck" [("code", .str "Stuck"), ("looks", v)] M := ⟨("Stuck", some "looks"), by decide, v, rfl, rfl, q⟩
theorem za_UnknownName {v : D} {Q : QD} {M : MM} (q : Q (.tup [.str "UnknownName", v]) M) : zAsk Q "UnknownName" [("code", .str "UnknownName"), ("name", v)] M := ⟨("UnknownName", some "name"), by decide, v, rfl, rfl, q⟩
theorem za_NothingLeft {v : D} {Q : QD} {M : MM} (q : Q (.tup [.str "NothingLeft", .non]) M) : zAsk Q "NothingLeft" [("code", .str "NothingLeft")] M := ⟨("NothingLeft", none), by decide, v, rfl, rfl, q⟩

def N__law_field : List Str := ["_law_e"]
theorem sc__law_field : FnScope N__law_field ["_law_e"] (defScope s__law_field) := ⟨rfl, rfl, rfl, by decide +kernel, rfl, by decide +kernel, by decide +kernel⟩
theorem fd__law_field (T : Tx P K mg) : ∃ fd, FunD K "_law_field" "_law_field" (defArgs s__law_field) (defBody s__law_field) (defScope s__law_field) [] [] (He.fAd K ("_law_field", none)) fd := T.says.def_ 5 (d := d__law_field) rfl
theorem kp__law_field (T : Tx P K mg) : PySem.W.keepIn K (.ref (He.fAd K ("_law_field", none))) = true := (fd__law_field T).elim fun _ F => F.kp
def t__law_field_1 : TSD := (dRet (dXf errs "name" (dVar 0)))
def t__law_field_3 : TSD := (dRet (dXf errs "stamp" (dVar 0)))
def t__law_field_5 : TSD := (dRet (dXf errs "given" (dVar 0)))
def t__law_field_7 : TSD := (dRet (dXf errs "at" (dVar 0)))
def t__law_field_9 : TSD := (dRet (dIf (dTest (dOp dEq (dXf errs "code" (dVar 0)) (dC (.str "InvalidWord")))) (dXf errs "word" (dVar 0)) (dXf errs "test" (dVar 0))))
def t__law_field_11 : TSD := (dRet (dIf (dTest (dOp dEq (dXf errs "code" (dVar 0)) (dC (.str "InvalidFate")))) (dXf errs "fate" (dVar 0)) (dXf errs "line" (dVar 0))))
def t__law_field_13 : TSD := (dRet (dIf (dTest (dOp dEq (dXf errs "code" (dVar 0)) (dC (.str "InvalidLimit")))) (dXf errs "limit" (dVar 0)) (dXf errs "most" (dVar 0))))
def t__law_field_14 : TSD := (dRet (dIf (dTest (dOp dEq (dXf errs "code" (dVar 0)) (dC (.str "Stuck")))) (dXf errs "looks" (dVar 0)) (dC .non)))
def t__law_field_12 : TSD := dSeq (dIfS (dTest (dOp (dInG id) (dXf errs "code" (dVar 0)) (dLst (dCons (dC (.str "InvalidLimit")) (dCons (dC (.str "Full")) dNil))))) t__law_field_13 dNext) t__law_field_14
def t__law_field_10 : TSD := dSeq (dIfS (dTest (dOp (dInG id) (dXf errs "code" (dVar 0)) (dLst (dCons (dC (.str "InvalidFate")) (dCons (dC (.str "InvalidText")) dNil))))) t__law_field_11 dNext) t__law_field_12
def t__law_field_8 : TSD := dSeq (dIfS (dTest (dOp (dInG id) (dXf errs "code" (dVar 0)) (dLst (dCons (dC (.str "InvalidWord")) (dCons (dC (.str "InvalidTest")) dNil))))) t__law_field_9 dNext) t__law_field_10
def t__law_field_6 : TSD := dSeq (dIfS (dTest (dOp (dInG id) (dXf errs "code" (dVar 0)) (dLst (dCons (dC (.str "InvalidClause")) (dCons (dC (.str "InvalidSources")) (dCons (dC (.str "InvalidLook")) (dCons (dC (.str "InvalidDeed")) dNil))))))) t__law_field_7 dNext) t__law_field_8
def t__law_field_4 : TSD := dSeq (dIfS (dTest (dOp (dInG id) (dXf errs "code" (dVar 0)) (dLst (dCons (dC (.str "InvalidKey")) (dCons (dC (.str "DuplicateKey")) (dCons (dC (.str "InvalidPair")) (dCons (dC (.str "UnknownPair")) dNil))))))) t__law_field_5 dNext) t__law_field_6
def t__law_field_2 : TSD := dSeq (dIfS (dTest (dOp (dInG id) (dXf errs "code" (dVar 0)) (dLst (dCons (dC (.str "InvalidStamp")) (dCons (dC (.str "DuplicateStamp")) (dCons (dC (.str "SameStamp")) (dCons (dC (.str "UnknownNote")) dNil))))))) t__law_field_3 dNext) t__law_field_4
def t__law_field_0 : TSD := dSeq (dIfS (dTest (dOp (dInG id) (dXf errs "code" (dVar 0)) (dLst (dCons (dC (.str "InvalidName")) (dCons (dC (.str "DuplicateName")) (dCons (dC (.str "SameCard")) (dCons (dC (.str "UnknownName")) dNil))))))) t__law_field_1 dNext) t__law_field_2

theorem go__law_field : ∀ xs M Z Q, spField xs M Z Q → xs.length = (["_law_e"] : List Str).length ∧ t__law_field_0 { nx := fun _ M' => Q .non M', rt := Q, xc := fun C fs _ M' => Z C fs M' } (startD N__law_field xs) M := by
  intro xs M Z Q h
  obtain ⟨p, hp, v, rfl, q⟩ := h
  refine ⟨rfl, ?_⟩
  simp only [eTab, List.mem_cons, List.not_mem_nil, or_false] at hp
  rcases hp with rfl | rfl | rfl | rfl | rfl
  all_goals simp [N__law_field, exnF, t__law_field_0, t__law_field_1, t__law_field_2, t__law_field_3, t__law_field_4, t__law_field_5, t__law_field_6, t__law_field_7, t__law_field_8, t__law_field_9, t__law_field_10, t__law_field_11, t__law_field_12, t__law_field_13, t__law_field_14, cut_eq, errs, sizeLine_eq]
  all_goals repeat (first | exact q | refine ⟨by decide +kernel, ?_⟩ | rw [if_pos (by decide +kernel)] | rw [if_neg (by decide +kernel)] | refine optK_at (a := v) (by rfl) ?_)

theorem fh__law_field (T : Tx P K mg) : FnSH P w K mg base 2 (He.fAd K ("_law_field", none)) spField := by
  obtain ⟨fd, F⟩ := fd__law_field T
  exact fn_h F sc__law_field (FunD.bindsA (ps := ["_law_e"]) F fun _ _ _ _ _ _ us hl => match us, hl with | [_], _ => rfl) (fun X cdv A outer s H E hX hr hp => by
    subst hX
    have h65 := hu65 hr
    exact (s_cons (s_if (d_tcmp (c_in h65) (d_xf (xf T (by decide)) (d_v 0)) (d_lst (ad_cons d_str (ad_cons d_str (ad_cons d_str (ad_cons d_str ad_nil))))) rfl)
    (s_one (s_ret (d_xf (xf T (by decide)) (d_v 0))))
    s_nil)
    (s_cons (s_if (d_tcmp (c_in h65) (d_xf (xf T (by decide)) (d_v 0)) (d_lst (ad_cons d_str (ad_cons d_str (ad_cons d_str (ad_cons d_str ad_nil))))) rfl)
    (s_one (s_ret (d_xf (xf T (by decide)) (d_v 0))))
    s_nil)
    (s_cons (s_if (d_tcmp (c_in h65) (d_xf (xf T (by decide)) (d_v 0)) (d_lst (ad_cons d_str (ad_cons d_str (ad_cons d_str (ad_cons d_str ad_nil))))) rfl)
    (s_one (s_ret (d_xf (xf T (by decide)) (d_v 0))))
    s_nil)
    (s_cons (s_if (d_tcmp (c_in h65) (d_xf (xf T (by decide)) (d_v 0)) (d_lst (ad_cons d_str (ad_cons d_str (ad_cons d_str (ad_cons d_str ad_nil))))) rfl)
    (s_one (s_ret (d_xf (xf T (by decide)) (d_v 0))))
    s_nil)
    (s_cons (s_if (d_tcmp (c_in h65) (d_xf (xf T (by decide)) (d_v 0)) (d_lst (ad_cons d_str (ad_cons d_str ad_nil))) rfl)
    (s_one (s_ret (d_if (d_tcmp (c_eq hr.units) (d_xf (xf T (by decide)) (d_v 0)) d_str (nomark _)) (d_xf (xf T (by decide)) (d_v 0)) (d_xf (xf T (by decide)) (d_v 0)))))
    s_nil)
    (s_cons (s_if (d_tcmp (c_in h65) (d_xf (xf T (by decide)) (d_v 0)) (d_lst (ad_cons d_str (ad_cons d_str ad_nil))) rfl)
    (s_one (s_ret (d_if (d_tcmp (c_eq hr.units) (d_xf (xf T (by decide)) (d_v 0)) d_str (nomark _)) (d_xf (xf T (by decide)) (d_v 0)) (d_xf (xf T (by decide)) (d_v 0)))))
    s_nil)
    (s_cons (s_if (d_tcmp (c_in h65) (d_xf (xf T (by decide)) (d_v 0)) (d_lst (ad_cons d_str (ad_cons d_str ad_nil))) rfl)
    (s_one (s_ret (d_if (d_tcmp (c_eq hr.units) (d_xf (xf T (by decide)) (d_v 0)) d_str (nomark _)) (d_xf (xf T (by decide)) (d_v 0)) (d_xf (xf T (by decide)) (d_v 0)))))
    s_nil)
    (s_one (s_ret (d_if (d_tcmp (c_eq hr.units) (d_xf (xf T (by decide)) (d_v 0)) d_str (nomark _)) (d_xf (xf T (by decide)) (d_v 0)) d_non))))))))))) go__law_field

def N__law_ask : List Str := ["_law_ask_here", "_law_e"]
theorem sc__law_ask : FnScope N__law_ask ["_law_ask_here"] (defScope s__law_ask) := ⟨rfl, rfl, rfl, by decide +kernel, rfl, by decide +kernel, by decide +kernel⟩
theorem fd__law_ask (T : Tx P K mg) : ∃ fd, FunD K "_law_ask" "_law_ask" (defArgs s__law_ask) (defBody s__law_ask) (defScope s__law_ask) [] [] (He.fAd K ("_law_ask", none)) fd := T.says.def_ 6 (d := d__law_ask) rfl
theorem kp__law_ask (T : Tx P K mg) : PySem.W.keepIn K (.ref (He.fAd K ("_law_ask", none))) = true := (fd__law_ask T).elim fun _ F => F.kp
def t__law_ask (vs0 : List V) (ds0 : List D) (mean : Mean) : TSD := dTry 1 okE (dRet (dTup (dCons (dC (.str "")) (dCons (dAct mean vs0 ds0 0) dNil)))) (dRet (dTup (dCons (dXf errs "code" (dVar 1)) (dCons (dCallS (fun xs _ M Z Q => spField xs M Z Q) (dCons (dVar 1) dNil) dNil) dNil))))
theorem go__law_ask : ∀ vs0 ds0 mean xs M Z Q, spAsk vs0 ds0 mean xs M Z Q → xs.length = (["_law_ask_here"] : List Str).length ∧ t__law_ask vs0 ds0 mean { nx := fun _ M' => Q .non M', rt := Q, xc := fun C fs _ M' => Z C fs M' } (startD N__law_ask xs) M := by
  intro vs0 ds0 mean xs M Z Q h
  obtain ⟨o, rfl, h⟩ := h
  refine ⟨rfl, ?_⟩
  simp [N__law_ask, t__law_ask]
  have e0 : ∀ (Z1 Z2 : XD) (Q1 Q2 : QD), Z1 = Z2 → Q1 = Q2 → mean o M Z2 Q2 → mean o M Z1 Q1 := by
    intro Z1 Z2 Q1 Q2 e1 e2 h
    rw [e1, e2]
    exact h
  refine e0 _ _ _ _ ?_ ?_ h
  · funext C fs M'
    refine propext ⟨fun h => ?_, fun h => ?_⟩
    · obtain ⟨_, h⟩ := h
      have h : C ∈ errs ∧ optK (List.lookup (Str.ofString "code") fs) fun v => spField [.exn C fs] M' X0 fun x M1 => 2 ≤ sizeLine ∧ Q (.tup [v, x]) M1 := h
      obtain ⟨_, h⟩ := h
      obtain ⟨v, e, h⟩ := optK_ex h
      obtain ⟨p, hp, v', e2, h⟩ := h
      cases e2
      refine ⟨p, hp, v', rfl, rfl, ?_⟩
      have : List.lookup (Str.ofString "code") (exnF p v') = some (.str p.1) := by
        unfold exnF
        split <;> rfl
      rw [this] at e
      cases e
      exact h.2
    · obtain ⟨p, hp, v, rfl, rfl, h⟩ := h
      refine ⟨decide_eq_true (tab_errs p hp), ?_⟩
      show p.1 ∈ errs ∧ optK (List.lookup (Str.ofString "code") (exnF p v)) fun v' => spField [.exn p.1 (exnF p v)] M' X0 fun x M1 => 2 ≤ sizeLine ∧ Q (.tup [v', x]) M1
      have : List.lookup (Str.ofString "code") (exnF p v) = some (.str p.1) := by
        unfold exnF
        split <;> rfl
      exact ⟨tab_errs p hp, optK_at this ⟨p, hp, v, rfl, by rw [sizeLine_eq]; decide, h⟩⟩
  · funext x M1
    simp [sizeLine_eq]

theorem fa__law_ask (T : Tx P K mg) {vs0 : List V} {ds0 : List D} {mean : Mean} (ac : Acts P w K mg base 10 vs0 ds0 mean) : FnS P w K mg base 11 (He.fAd K ("_law_ask", none)) [] (fun xs _ M Z Q => spAsk vs0 ds0 mean xs M Z Q) := by
  obtain ⟨fd, F⟩ := fd__law_ask T
  exact fns_all (fn_d (k := 10) (sp := spAsk vs0 ds0 mean) (t := t__law_ask vs0 ds0 mean) F sc__law_ask (fun X cdv A outer s H E hX hr hp => by
    subst hX
    exact (s_one (s_try3 rfl rfl sc__law_ask.nd rfl rfl ⟨rfl, by decide, .inl (T.glo (T.says.fact 15 rfl))⟩ ⟨rfl, by decide, .inl (T.glo (T.says.fact 16 rfl))⟩ ⟨rfl, by decide, .inl (T.glo (T.says.fact 17 rfl))⟩ rfl (exm T) (fun pn xe po => (s_one (s_ret (d_tup (ad_cons d_str (ad_cons (d_act 0 (hr.mono (by omega)) ac) ad_nil)))))) (fun a => (s_one (s_ret (d_tup (ad_cons (d_xf (xf T (by decide)) (d_v 1)) (ad_cons (d_call (cal_h (fh__law_field T) (room_hand (hr.mono (by omega)))) (kp__law_field T) (T.glo (T.says.fact 18 rfl)) (ad_cons (d_v 1) ad_nil)) ad_nil))))))))) (go__law_ask vs0 ds0 mean)) (F.bindsN fun _ _ _ _ _ _ us hl => match us, hl with | [_], _ => rfl)

theorem lc_asks {vs0 : List V} {ds0 : List D} {mean : Mean} {Q : QD} {L : Option D} : ∀ (os : List (Unit → Obj)) (acc : List D) (M : MM), acc.length + os.length ≤ 1000 → lcGo (.one 1) dYes (dCallS (fun xs x M Z Q => spAsk vs0 ds0 mean xs M Z Q) (dCons (dVar 1) dNil) dNil) [L, none] Q (os.map fun o => D.act o vs0 ds0) acc M = asksGo mean os acc M Q
  | [], acc, M, _ => rfl
  | o :: os, acc, M, h => by
    have hl : acc.length < sizeLine := by rw [sizeLine_eq]; simp at h; omega
    have e : (fun (y : D) (M4 : MM) => acc.length < sizeLine ∧ lcGo (.one 1) dYes (dCallS (fun xs x M Z Q => spAsk vs0 ds0 mean xs M Z Q) (dCons (dVar 1) dNil) dNil) [L, none] Q (os.map fun o => D.act o vs0 ds0) (acc ++ [y]) M4) = fun y M4 => asksGo mean os (acc ++ [y]) M4 Q := by
      funext y M4
      rw [lc_asks os (acc ++ [y]) M4 (by simp at h ⊢; omega)]
      exact propext ⟨fun h => h.2, fun h => ⟨hl, h⟩⟩
    show spAsk vs0 ds0 mean [.act o vs0 ds0] M X0 (fun (y : D) (M4 : MM) => acc.length < sizeLine ∧ lcGo (.one 1) dYes (dCallS (fun xs x M Z Q => spAsk vs0 ds0 mean xs M Z Q) (dCons (dVar 1) dNil) dNil) [L, none] Q (os.map fun o => D.act o vs0 ds0) (acc ++ [y]) M4) = _
    rw [e]
    refine propext ⟨fun h => ?_, fun h => ⟨o, rfl, h⟩⟩
    obtain ⟨o', e', h⟩ := h
    cases e'
    exact h

def N__law_asks : List Str := ["_law_asks_here", "_law_ask_here"]
theorem sc__law_asks : FnScope N__law_asks ["_law_asks_here"] (defScope s__law_asks) := ⟨rfl, rfl, rfl, by decide +kernel, rfl, by decide +kernel, by decide +kernel⟩
theorem fd__law_asks (T : Tx P K mg) : ∃ fd, FunD K "_law_asks" "_law_asks" (defArgs s__law_asks) (defBody s__law_asks) (defScope s__law_asks) [] [] (He.fAd K ("_law_asks", none)) fd := T.says.def_ 7 (d := d__law_asks) rfl
theorem kp__law_asks (T : Tx P K mg) : PySem.W.keepIn K (.ref (He.fAd K ("_law_asks", none))) = true := (fd__law_asks T).elim fun _ F => F.kp
def t__law_asks (vs0 : List V) (ds0 : List D) (mean : Mean) : TSD := dRet (dLc (iL (dVar 0)) (.one 1) dYes (dCallS (fun xs _ M Z Q => spAsk vs0 ds0 mean xs M Z Q) (dCons (dVar 1) dNil) dNil) [1])
theorem go__law_asks : ∀ vs0 ds0 mean xs M Z Q, spAsks vs0 ds0 mean xs M Z Q → xs.length = (["_law_asks_here"] : List Str).length ∧ t__law_asks vs0 ds0 mean { nx := fun _ M' => Q .non M', rt := Q, xc := fun C fs _ M' => Z C fs M' } (startD N__law_asks xs) M := by
  intro vs0 ds0 mean xs M Z Q h
  obtain ⟨os, rfl, hl, h⟩ := h
  refine ⟨rfl, ?_⟩
  simp [N__law_asks, t__law_asks]
  rw [lc_asks os [] M (by simpa using hl)]
  exact h

theorem fa__law_asks (T : Tx P K mg) {vs0 : List V} {ds0 : List D} {mean : Mean} (ac : Acts P w K mg base 10 vs0 ds0 mean) : FnS P w K mg base 12 (He.fAd K ("_law_asks", none)) [] (fun xs _ M Z Q => spAsks vs0 ds0 mean xs M Z Q) := by
  obtain ⟨fd, F⟩ := fd__law_asks T
  exact fns_all (fn_d (k := 11) (sp := spAsks vs0 ds0 mean) (t := t__law_asks vs0 ds0 mean) F sc__law_asks (fun X cdv A outer s H E hX hr hp => by
    subst hX
    exact (s_one (s_ret (d_lc (own := [("_law_ask_here", 1)]) (g := .one 1) rfl sc__law_asks.nd (i_list (d_v 0)) (blkOk_by (own := [("_law_ask_here", 1)]) (N := N__law_asks) (sc := defScope s__law_asks) (by decide +kernel))
      (fun _ _ _ _ _ => pg_name (i := 1) sc__law_asks.nd rfl (Or.inl rfl)) (fun _ _ _ _ _ => ts_nil) (fun _ _ _ _ _ => (d_call (cal_fn (fa__law_ask T ac) (hr.mono (by omega))) (kp__law_ask T) (T.glo (T.says.fact 19 rfl)) (ad_cons (d_v 1) ad_nil))))))) (go__law_asks vs0 ds0 mean)) (F.bindsN fun _ _ _ _ _ _ us hl => match us, hl with | [_], _ => rfl)

def fitB : D → Bool
  | .str z => decide (z.length ≤ 100000)
  | .non => true | .bl _ => true | .int _ => true | .lst _ => true | .tup _ => true
  | _ => false
theorem fit_of {d : D} (h : fitB d = true) : fitD d := by
  cases d <;> first | (cases h; done) | trivial | exact of_decide_eq_true (p := _ ≤ 100000) h
def isNameF : List D → Option Res
  | [d] => if fitB d = true then some (.ok (.bl (nameD d))) else none
  | _ => none
def isWordF : List D → Option Res
  | [d] => if fitB d = true then some (.ok (.bl (wordD d))) else none
  | _ => none
def isNumF : List D → Option Res
  | [d, .int lo, .int hi] => if fitB d = true then some (.ok (.bl (numD d lo hi))) else none
  | _ => none
theorem name_fit {d : D} (h : nameD d = true) : fitB d = true ∧ ∃ z, d = .str z ∧ nameS z = true := by
  cases d with
  | str z =>
    have h : nameS z = true := h
    refine ⟨?_, z, rfl, h⟩
    unfold nameS at h
    simp only [Bool.and_eq_true, decide_eq_true_eq] at h
    exact decide_eq_true (by omega)
  | _ => cases h
theorem name_len {z : Str} (h : nameS z = true) : 1 ≤ z.length ∧ z.length ≤ 8 := by
  unfold nameS at h
  simp only [Bool.and_eq_true, decide_eq_true_eq] at h
  exact h.1
theorem word_len {z : Str} (h : wordS z = true) : 1 ≤ z.length ∧ z.length ≤ 40 := by
  unfold wordS at h
  simp only [Bool.and_eq_true, decide_eq_true_eq] at h
  exact h.1

theorem fs_isWord (T : Tx P K mg) : FnS P w K mg base 1 (He.fAd K ("is_word", none)) [] (fnS isWordF) := (fs_is_word T).imp fun xs ys M Z Q h => by
  replace h : optK (isWordF xs) fun r => outK r M Z Q := h
  unfold isWordF at h
  split at h
  · rename_i d
    split at h
    · rename_i hf
      exact ⟨d, rfl, fit_of hf, h⟩
    · exact h.elim
  · exact h.elim

theorem join_pick {p : Nat → Bool} : ∀ {ys : List D}, (∀ y ∈ ys, ∃ c, p c = true ∧ y = .str ⟨#[c]⟩) → ∃ ss, strsD ys = some ss ∧ ss.length = ys.length ∧ (ss.map (·.length)).sum = ys.length ∧ (Str.join Str.empty ss).length = ys.length ∧ (Str.join Str.empty ss).cps.toList.all p = true
  | [], _ => ⟨[], rfl, rfl, rfl, rfl, rfl⟩
  | y :: r, h => by
    obtain ⟨c, hc, rfl⟩ := h y List.mem_cons_self
    obtain ⟨ss, e, h1, h2, h3, h4⟩ := join_pick (ys := r) fun z hz => h z (List.mem_cons_of_mem _ hz)
    refine ⟨⟨#[c]⟩ :: ss, by unfold strsD; rw [e]; rfl, by simp [h1], ?_, ?_, ?_⟩
    · rw [List.map_cons, List.sum_cons, h2]
      show 1 + r.length = r.length + 1
      omega
    · cases ss with
      | nil =>
        cases r with
        | nil => rfl
        | cons a b => simp at h1
      | cons a b =>
        show (⟨#[c]⟩ ++ Str.empty ++ Str.join Str.empty (a :: b)).length = _
        rw [len_app, len_app, h3]
        show 1 + 0 + r.length = r.length + 1
        omega
    · cases ss with
      | nil =>
        show [c].all p = true
        simp [hc]
      | cons a b =>
        show ((#[c] ++ #[] ++ (Str.join Str.empty (a :: b)).cps).toList.all p) = true
        simp only [Array.toList_append, List.all_append, h4]
        simp [hc]
theorem cut_two (z : Str) {i : Int} (h0 : 0 ≤ i) (h1 : i ≤ z.length) : (cutS z none (some i)).length + (cutS z (some i) none).length = z.length := by
  obtain ⟨k, rfl⟩ := Int.eq_ofNat_of_zero_le h0
  have e : z.length = z.cps.toList.length := by simp; rfl
  have h1 : k ≤ z.length := by omega
  unfold cutS
  show ((((z.cps.toList.drop _).take _).toArray).size) + ((((z.cps.toList.drop _).take _).toArray).size) = _
  rw [e] at h1 ⊢
  simp only [HT.sIx_none, HT.sIx_nat]
  simp
  have : z.cps.toList.length = z.cps.size := by simp
  rw [this] at h1
  omega
theorem cut_all {p : Nat → Bool} {z : Str} (h : z.cps.toList.all p = true) (lo hi : Option Int) : (cutS z lo hi).cps.toList.all p = true := by
  rw [List.all_eq_true] at h ⊢
  intro c hc
  unfold cutS at hc
  exact h c (List.mem_of_mem_drop (List.mem_of_mem_take (by simpa using hc)))
theorem app_all {p : Nat → Bool} {a b : Str} (h : a.cps.toList.all p = true) (h2 : b.cps.toList.all p = true) : (a ++ b).cps.toList.all p = true := by
  show ((a.cps ++ b.cps).toList.all p) = true
  rw [Array.toList_append, List.all_append, h, h2]
  rfl
theorem mid_inj {a b : Str} {c d : Nat} (h : a ++ ⟨#[c]⟩ ++ b = a ++ ⟨#[d]⟩ ++ b) : c = d := by
  have h := congrArg (fun z : Str => z.cps.toList) h
  have h : ((a.cps ++ #[c]) ++ b.cps).toList = ((a.cps ++ #[d]) ++ b.cps).toList := h
  simpa using h
theorem ins_perm {α : Type} (ys : List α) (d : α) (i : Nat) : (ys.take i ++ [d] ++ ys.drop i).Perm (ys ++ [d]) := by
  have e : ys ++ [d] = (ys.take i ++ ys.drop i) ++ [d] := by rw [List.take_append_drop]
  rw [e, List.append_assoc, List.append_assoc]
  exact List.perm_append_comm.append_left _
theorem look_ne {M : MM} {p q : Addr} {mo : MO} (h : q ≠ p) : List.lookup q ((p, mo) :: M) = M.lookup q := by
  have e : (q == p) = false := by simpa using h
  simp [List.lookup, e]
theorem signs_nodup {z : Str} (h : z.cps.toList.Nodup) : (signs z).Nodup := by
  unfold signs
  exact List.Pairwise.map _ (fun a b hab e => hab (by simpa using e)) h

def spMixed : SpD := fun xs M Z Q => ∃ (g : Addr) (ds : List D), xs = [.ref g, .lst ds] ∧ M.lookup g = some .bag ∧ ds.length ≤ 1000 ∧ ∀ ys : List D, ys.Perm ds → Q (.lst ys) M

def N__law_mixed : List Str := ["_law_bag_here", "_law_things", "_law_found", "_law_thing"]
theorem sc__law_mixed : FnScope N__law_mixed ["_law_bag_here", "_law_things"] (defScope s__law_mixed) := ⟨rfl, rfl, rfl, by decide +kernel, rfl, by decide +kernel, by decide +kernel⟩
theorem fd__law_mixed (T : Tx P K mg) : ∃ fd, FunD K "_law_mixed" "_law_mixed" (defArgs s__law_mixed) (defBody s__law_mixed) (defScope s__law_mixed) [] [] (He.fAd K ("_law_mixed", none)) fd := T.says.def_ 8 (d := d__law_mixed) rfl
theorem kp__law_mixed (T : Tx P K mg) : PySem.W.keepIn K (.ref (He.fAd K ("_law_mixed", none))) = true := (fd__law_mixed T).elim fun _ F => F.kp
def t__law_mixed_2 : TSD := (dDrop (dBM "list" dInsert (dVar 2) (dCons (dCallS (fun xs _ M Z Q => spPick xs M Z Q) (dCons (dVar 0) (dCons (dOp dAdd (dCB dLen (dCons (dVar 2) dNil)) (dC (.int 1))) dNil)) dNil) (dCons (dVar 3) dNil))))
def t__law_mixed_3 : TSD := (dRet (dFrz (dVar 2)))
def t__law_mixed_1 : TSD := dSeq (dFor (iL (dVar 1)) (.one 3) t__law_mixed_2) t__law_mixed_3
def t__law_mixed_0 : TSD := dSeq (dSet (dLstM dNil) 2) t__law_mixed_1
theorem ok__law_mixed (T : Tx P K mg) {fd : FuncData} (F : FunD K "_law_mixed" "_law_mixed" (defArgs s__law_mixed) (defBody s__law_mixed) (defScope s__law_mixed) [] [] (He.fAd K ("_law_mixed", none)) fd) : FnOk P w K mg base (L2.CX P w) (2) (He.fAd K ("_law_mixed", none)) fd ["_law_bag_here", "_law_things"] (spOf K spMixed) := by
  refine (fn_d (k := 1) (sp := spMixed) (t := t__law_mixed_0) F sc__law_mixed (fun X cdv A outer s H E hX hr hp => by
    subst hX
    exact (s_cons (s_set (i := 2) sc__law_mixed.nd rfl (.inl rfl) (d_lstM ad_nil))
    (s_cons (s_for hp rfl (i_list (d_v 1)) (g_one (i := 3) sc__law_mixed.nd rfl (.inl rfl))
    (s_one (s_expr (d_bm PySem.F.plainAttrs_list PySem.F.slot_list_insert PySem.F.type_list_insert m_insert (d_v 2) (ad_cons (d_call (cal_fn (fs__law_pick T) (hr.mono (by omega))) (kp__law_pick T) (T.glo (T.says.fact 4 rfl)) (ad_cons (d_v 0) (ad_cons (d_op o_add (d_callB k_len (T.free (T.says.fact 1 rfl)) bf_len (ad_cons (d_v 2) ad_nil)) d_int) ad_nil))) (ad_cons (d_v 3) ad_nil))))))
    (s_one (s_ret (d_frz (d_v 2))))))) (fun xs M Z Q h => ?_))
  obtain ⟨g, ds, rfl, hg, hl, q⟩ := h
  refine ⟨rfl, ?_⟩
  simp [N__law_mixed, t__law_mixed_0]
  intro p hp0
  have hp : p ∉ keys M := fun z => by
    obtain ⟨x, hx, e⟩ := List.mem_map.mp z
    subst e
    exact hp0 _ hx
  refine cut_go ?_
  simp [t__law_mixed_1]
  have hgp : g ≠ p := fun e => hp (e ▸ lookup_key hg)
  refine for_inv (fun xs ds' M' => ∃ zs ys x3, M' = (p, .lst ys) :: M ∧ ds = zs ++ xs ∧ ys.Perm zs ∧ ds' = [some (.ref g), some (.lst ds), some (.ref p), x3]) ?turn ?done _ _ _ ⟨[], [], _, rfl, rfl, .nil, rfl⟩
  case turn =>
    rintro x xs ds' M' ⟨zs, ys, x3, rfl, rfl, hy, rfl⟩
    refine ⟨_, rfl, fun E' h1 h2 h3 h4 h5 => ?_⟩
    have hly : ys.length = zs.length := hy.length_eq
    rw [List.length_append] at hl
    have hz := size_le (show ys.length ≤ 100000 by omega)
    simp [t__law_mixed_2, hz]
    refine ⟨g, _, rfl, ?_, by omega, by omega, fun r r0 r1 => ?_⟩
    · rw [look_ne hgp]; exact hg
    · have i1 : r < 9223372036854775808 := by omega
      simp [r0, i1]
      refine ⟨by rw [sizeLine_eq]; omega, ?_⟩
      have e : put ((p, MO.lst ys) :: M) p (.lst (ys.take r.toNat ++ x :: ys.drop r.toNat)) = (p, .lst (ys.take r.toNat ++ x :: ys.drop r.toNat)) :: M := put_cons hp
      rw [e]
      refine h4 _ _ ⟨zs ++ [x], _, _, rfl, by simp, ?_, rfl⟩
      have := (ins_perm ys x r.toNat).trans (hy.append_right [x])
      simpa using this
  case done =>
    rintro ds' M' ⟨zs, ys, x3, rfl, rfl, hy, rfl⟩
    dsimp only
    refine cut_go ?_
    simp [t__law_mixed_3, hp]
    exact q ys (by simpa using hy)
theorem fs__law_mixed (T : Tx P K mg) : FnS P w K mg base (2) (He.fAd K ("_law_mixed", none)) [] (fun xs _ M Z Q => spMixed xs M Z Q) := by
  obtain ⟨fd, F⟩ := fd__law_mixed T
  exact fns_all (ok__law_mixed T F) (F.bindsN fun _ _ _ _ _ _ us hl => match us, hl with | [_, _], _ => rfl)


end
end L2.Dl
namespace L2.Dl
open PySem PySem.Spec PyProof.Rows
section
variable {P : Program} {w : World} {K : PySem.W.Frag} {mg : Str → Option Value} {base : Heap}
def spNames : SpD := fun xs M Z Q => ∃ (g : Addr) (n : Nat), xs = [.ref g, .int n] ∧ M.lookup g = some .bag ∧ n ≤ 26 ∧ ∀ zs : List Str, zs.length = n → (∀ z ∈ zs, nameS z = true) → zs.Nodup → Q (.lst (zs.map D.str)) M

def N__law_names : List Str := ["_law_bag_here", "_law_many", "_law_letters", "_law_sign", "_law_stem", "_law_k", "_law_at"]
theorem sc__law_names : FnScope N__law_names ["_law_bag_here", "_law_many"] (defScope s__law_names) := ⟨rfl, rfl, rfl, by decide +kernel, rfl, by decide +kernel, by decide +kernel⟩
theorem fd__law_names (T : Tx P K mg) : ∃ fd, FunD K "_law_names" "_law_names" (defArgs s__law_names) (defBody s__law_names) (defScope s__law_names) [] [] (He.fAd K ("_law_names", none)) fd := T.says.def_ 9 (d := d__law_names) rfl
theorem kp__law_names (T : Tx P K mg) : PySem.W.keepIn K (.ref (He.fAd K ("_law_names", none))) = true := (fd__law_names T).elim fun _ F => F.kp
def t__law_names_3 : TSD := (dRet (dLc (iL (dVar 2)) (.one 3) dYes (dOp dAdd (dOp dAdd (dSl (dVar 4) dNoPart (dPart (dVar 6))) (dVar 3)) (dSl (dVar 4) (dPart (dVar 6)) dNoPart)) [3]))
def t__law_names_2 : TSD := dSeq (dSet (dCallS (fun xs _ M Z Q => spPick xs M Z Q) (dCons (dVar 0) (dCons (dOp dAdd (dCB dLen (dCons (dVar 4) dNil)) (dC (.int 1))) dNil)) dNil) 6) t__law_names_3
def t__law_names_1 : TSD := dSeq (dSet (dBM "str" dJoin (dC (.str "")) (dCons (dLc (iR1 (dCallS (fun xs _ M Z Q => spOfD xs M Z Q) (dCons (dVar 0) (dCons (dLst (dCons (dC (.int 0)) (dCons (dC (.int 1)) (dCons (dC (.int 2)) (dCons (dC (.int 7)) dNil))))) dNil)) dNil)) (.one 5) dYes (dCallS (fun xs _ M Z Q => spOfD xs M Z Q) (dCons (dVar 0) (dCons (dC (.str "abcdefghijklmnopqrstuvwxyz")) dNil)) dNil) [5]) dNil)) 4) t__law_names_2
def t__law_names_0 : TSD := dSeq (dSet (dSl (dCallS (fun xs _ M Z Q => spMixed xs M Z Q) (dCons (dVar 0) (dCons (dLc (iS (dC (.str "abcdefghijklmnopqrstuvwxyz"))) (.one 3) dYes (dVar 3) [3]) dNil)) dNil) dNoPart (dPart (dVar 1))) 2) t__law_names_1
theorem ok__law_names (T : Tx P K mg) {fd : FuncData} (F : FunD K "_law_names" "_law_names" (defArgs s__law_names) (defBody s__law_names) (defScope s__law_names) [] [] (He.fAd K ("_law_names", none)) fd) : FnOk P w K mg base (L2.CX P w) (4) (He.fAd K ("_law_names", none)) fd ["_law_bag_here", "_law_many"] (spOf K spNames) := by
  refine (fn_d (k := 3) (sp := spNames) (t := t__law_names_0) F sc__law_names (fun X cdv A outer s H E hX hr hp => by
    subst hX
    exact (s_cons (s_set (i := 2) sc__law_names.nd rfl (.inl rfl) (d_slice (d_call (cal_fn (fs__law_mixed T) (hr.mono (by omega))) (kp__law_mixed T) (T.glo (T.says.fact 20 rfl)) (ad_cons (d_v 0) (ad_cons (d_lc (own := [("_law_sign", 3)]) (g := .one 3) rfl sc__law_names.nd (i_str d_str) (blkOk_by (own := [("_law_sign", 3)]) (N := N__law_names) (sc := defScope s__law_names) (by decide +kernel))
      (fun _ _ _ _ _ => pg_name (i := 3) sc__law_names.nd rfl (Or.inl rfl)) (fun _ _ _ _ _ => ts_nil) (fun _ _ _ _ _ => (d_v 3))) ad_nil))) od_none (od_some (d_v 1))))
    (s_cons (s_set (i := 4) sc__law_names.nd rfl (.inr rfl) (d_bm PySem.F.plainAttrs_str PySem.F.slot_str_join PySem.F.type_str_join m_join d_str (ad_cons (d_lc (own := [("_law_k", 5)]) (g := .one 5) rfl sc__law_names.nd (i_range1 (T.free (T.says.fact 22 rfl)) (d_call (cal_fn (fs__law_of T) (hr.mono (by omega))) (kp__law_of T) (T.glo (T.says.fact 21 rfl)) (ad_cons (d_v 0) (ad_cons (d_lst (ad_cons d_int (ad_cons d_int (ad_cons d_int (ad_cons d_int ad_nil))))) ad_nil)))) (blkOk_by (own := [("_law_k", 5)]) (N := N__law_names) (sc := defScope s__law_names) (by decide +kernel))
      (fun _ _ _ _ _ => pg_name (i := 5) sc__law_names.nd rfl (Or.inl rfl)) (fun _ _ _ _ _ => ts_nil) (fun _ _ _ _ _ => (d_call (cal_fn (fs__law_of T) (hr.mono (by omega))) (kp__law_of T) (T.glo (T.says.fact 21 rfl)) (ad_cons (d_v 0) (ad_cons d_str ad_nil))))) ad_nil)))
    (s_cons (s_set (i := 6) sc__law_names.nd rfl (.inr rfl) (d_call (cal_fn (fs__law_pick T) (hr.mono (by omega))) (kp__law_pick T) (T.glo (T.says.fact 4 rfl)) (ad_cons (d_v 0) (ad_cons (d_op o_add (d_callB k_len (T.free (T.says.fact 1 rfl)) bf_len (ad_cons (d_v 4) ad_nil)) d_int) ad_nil))))
    (s_one (s_ret (d_lc (own := [("_law_sign", 3)]) (g := .one 3) rfl sc__law_names.nd (i_list (d_v 2)) (blkOk_by (own := [("_law_sign", 3)]) (N := N__law_names) (sc := defScope s__law_names) (by decide +kernel))
      (fun _ _ _ _ _ => pg_name (i := 3) sc__law_names.nd rfl (Or.inl rfl)) (fun _ _ _ _ _ => ts_nil) (fun _ _ _ _ _ => (d_op o_add (d_op o_add (d_slice (d_v 4) od_none (od_some (d_v 6))) (d_v 3)) (d_slice (d_v 4) (od_some (d_v 6)) od_none)))))))))) (fun xs M Z Q h => ?_))
  obtain ⟨g, n, rfl, hg, hn, q⟩ := h
  refine ⟨rfl, ?_⟩
  simp [N__law_names]
  simp [t__law_names_0]
  refine lc_map (fun x => x) _ _ (fun x hx => ⟨_, rfl, fun Q' q => by simpa using q⟩) (by rw [sizeLine_eq]; decide) ?_
  have hlen : ([] ++ (signs "abcdefghijklmnopqrstuvwxyz").map fun x => x).length = 26 := by decide
  simp only [List.map_id', List.nil_append]
  refine ⟨g, _, rfl, hg, by decide, fun ys hy => ?_⟩
  have hnd : ys.Nodup := (hy.nodup_iff).mpr (signs_nodup (by decide +kernel))
  have hl : ys.length = 26 := by rw [hy.length_eq]; decide
  have hm : ∀ y ∈ ys, ∃ c, inS LET c = true ∧ y = .str ⟨#[c]⟩ := fun y hy' => by
    obtain ⟨c, hc, e⟩ := signs_mem (hy.mem_iff.mp hy')
    exact ⟨c, decide_eq_true hc, e⟩
  have hcut : cutD ys none (some (n : Int)) = ys.take n := by
    unfold cutD
    simp only [HT.sIx_none, HT.sIx_nat, hl]
    rw [List.drop_zero, Nat.sub_zero]
    congr 1
    omega
  have hz := size_le (show ys.length ≤ 100000 by omega)
  simp [hcut]
  clear hcut
  have hnd2 : (ys.take n).Nodup := hnd.sublist (List.take_sublist _ _)
  have hl2 : (ys.take n).length = n := by rw [List.length_take, hl]; omega
  have hm2 : ∀ y ∈ ys.take n, ∃ c, inS LET c = true ∧ y = .str ⟨#[c]⟩ := fun y h => hm y (List.mem_of_mem_take h)
  generalize ys.take n = ls at hnd2 hl2 hm2 ⊢
  refine cut_go ?_
  simp [t__law_names_1, sizeLine_eq]
  refine ⟨g, _, _, rfl, hg, rfl, by decide, by decide, fun y hy => ?_⟩
  obtain ⟨m, rfl, hm⟩ : ∃ m : Nat, y = .int m ∧ m ≤ 7 := by
    simp at hy
    rcases hy with h | h | h | h <;> subst h
    · exact ⟨0, rfl, by decide⟩
    · exact ⟨1, rfl, by decide⟩
    · exact ⟨2, rfl, by decide⟩
    · exact ⟨7, rfl, by decide⟩
  have m1 : -4611686018427387904 ≤ (m : Int) := by omega
  have m2 : (m : Int) < 4611686018427387904 := by omega
  simp [m1, m2]
  refine lc_pred (fun y => ∃ c, inS LET c = true ∧ y = .str ⟨#[c]⟩) _ _ (fun x hx => ⟨_, rfl, fun Q' hq => ?_⟩) (by rw [sizeLine_eq]; simp [ranged_len]; omega) (fun ys hl hp => ?_)
  · simp
    refine ⟨g, _, _, rfl, hg, rfl, by rw [signs_length]; decide, by rw [signs_length]; decide, fun y hy => hq y ?_⟩
    obtain ⟨c, hc, e⟩ := signs_mem hy
    exact ⟨c, decide_eq_true hc, e⟩
  rw [ranged_len] at hl
  obtain ⟨ss, e1, e2, e3, e4, e5⟩ := join_pick hp
  have hs : ss.length * (Str.ofString "").length = 0 := Nat.mul_zero _
  have hq : ys.length ≤ 16777216 := by omega
  simp [e1, e3, hs, hq]
  have hw : (Str.join (Str.ofString "") ss).length ≤ 7 := by
    show (Str.join Str.empty ss).length ≤ 7
    omega
  have ha : (Str.join (Str.ofString "") ss).cps.toList.all (inS LET) = true := e5
  generalize Str.join (Str.ofString "") ss = stem at hw ha ⊢
  refine cut_go ?_
  have hz1 := size_le (show stem.length ≤ 100000 by omega)
  simp [t__law_names_2, hz1]
  refine ⟨g, _, rfl, hg, by omega, by omega, fun at_ a0 a1 => cut_go ?_⟩
  have ct := cut_two stem a0 (by omega)
  have c1 := cut_all ha none (some at_)
  have c2 := cut_all ha (some at_) none
  simp [t__law_names_3]
  generalize hA : cutS stem none (some at_) = A at ct c1
  generalize hB : cutS stem (some at_) none = B at ct c2
  have sl : stem.length ≤ 16777216 := by omega
  let fn : D → D := fun d => match d with
    | .str z => .str (A ++ z ++ B)
    | d => d
  refine lc_map fn _ _ (fun x hx => ⟨_, rfl, fun Q' q => ?_⟩) (by rw [sizeLine_eq]; simp [hl2]; omega) ?_
  · obtain ⟨c, hc, rfl⟩ := hm2 x hx
    have l1 : (⟨#[c]⟩ : Str).length = 1 := rfl
    have k1 : A.length + (⟨#[c]⟩ : Str).length ≤ 16777216 := by omega
    have k2 : (A ++ ⟨#[c]⟩).length + B.length ≤ 16777216 := by rw [len_app]; omega
    simp [sizeLine_eq, hA, hB, k1, k2, sl]
    exact q
  have : ∀ (ls : List D), (∀ y ∈ ls, ∃ c, inS LET c = true ∧ y = .str ⟨#[c]⟩) → ls.Nodup → ∃ zs : List Str, zs.length = ls.length ∧ (∀ z ∈ zs, nameS z = true ∧ ∃ c, z = A ++ ⟨#[c]⟩ ++ B ∧ D.str ⟨#[c]⟩ ∈ ls) ∧ zs.Nodup ∧ ls.map fn = zs.map D.str := by
    intro ls
    induction ls with
    | nil => exact fun _ _ => ⟨[], rfl, by simp, .nil, rfl⟩
    | cons l ls ih =>
      intro hm hnd
      obtain ⟨zs, z1, z2, z3, z4⟩ := ih (fun y hy => hm y (List.mem_cons_of_mem _ hy)) (List.nodup_cons.mp hnd).2
      obtain ⟨c, hc, rfl⟩ := hm l List.mem_cons_self
      refine ⟨(A ++ ⟨#[c]⟩ ++ B) :: zs, by simp [z1], fun z hz => ?_, List.nodup_cons.mpr ⟨fun hin => ?_, z3⟩, by rw [List.map_cons, List.map_cons, z4]⟩
      · rcases List.mem_cons.mp hz with rfl | hz
        · refine ⟨?_, c, rfl, List.mem_cons_self⟩
          have l1 : (⟨#[c]⟩ : Str).length = 1 := rfl
          have aa : (A ++ ⟨#[c]⟩ ++ B).cps.toList.all (inS LET) = true := app_all (app_all c1 (by simpa using hc)) c2
          have l2 : (A ++ ⟨#[c]⟩ ++ B).length = A.length + 1 + B.length := by rw [len_app, len_app, l1]
          unfold nameS
          rw [aa, l2]
          simp
          omega
        · obtain ⟨z5, d, z6, z7⟩ := z2 z hz
          exact ⟨z5, d, z6, List.mem_cons_of_mem _ z7⟩
      · obtain ⟨_, d, e, hd⟩ := z2 _ hin
        have := mid_inj e
        subst this
        exact (List.nodup_cons.mp hnd).1 hd
  obtain ⟨zs, z1, z2, z3, z4⟩ := this ls hm2 hnd2
  rw [List.nil_append, z4]
  exact q zs (by omega) (fun z hz => (z2 z hz).1) z3
theorem fs__law_names (T : Tx P K mg) : FnS P w K mg base (4) (He.fAd K ("_law_names", none)) [] (fun xs _ M Z Q => spNames xs M Z Q) := by
  obtain ⟨fd, F⟩ := fd__law_names T
  exact fns_all (ok__law_names T F) (F.bindsN fun _ _ _ _ _ _ us hl => match us, hl with | [_, _], _ => rfl)

@[simp] theorem at_pick (g : Addr) (n : Int) (ys : List D) (M : MM) (Z : XD) (Q : QD) : ask (fun xs _ M Z Q => spPick xs M Z Q) [.ref g, .int n] ys M Z Q = (M.lookup g = some .bag ∧ 0 < n ∧ n ≤ 2 ^ 60 ∧ ∀ r, 0 ≤ r → r < n → Q (.int r) M) := propext ⟨fun ⟨g', n', e, h⟩ => by
  cases e
  exact h, fun h => ⟨g, n, rfl, h⟩⟩
@[simp] theorem at_of (g : Addr) (xs ys : List D) (M : MM) (Z : XD) (Q : QD) : ask (fun xs _ M Z Q => spOfD xs M Z Q) [.ref g, .lst xs] ys M Z Q = (M.lookup g = some .bag ∧ 0 < xs.length ∧ xs.length ≤ 1000 ∧ ∀ y ∈ xs, Q y M) := propext ⟨fun ⟨g', d, ys, e, h1, h2, h⟩ => by
  cases e
  cases h2
  exact ⟨h1, h⟩, fun h => ⟨g, _, _, rfl, h.1, rfl, h.2⟩⟩

@[simp high] theorem at_ofM {α : Type} (f : α → D) (g : Addr) (l : List α) (ys : List D) (M : MM) (Z : XD) (Q : QD) : ask (fun xs _ M Z Q => spOfD xs M Z Q) [.ref g, .lst (l.map f)] ys M Z Q = (M.lookup g = some .bag ∧ 0 < l.length ∧ l.length ≤ 1000 ∧ ∀ a ∈ l, Q (f a) M) := by
  rw [at_of]
  refine propext ⟨fun h => ⟨h.1, by simpa using h.2.1, by simpa using h.2.2.1, fun a ha => h.2.2.2 _ (List.mem_map.mpr ⟨a, ha, rfl⟩)⟩, fun h => ⟨h.1, by simpa using h.2.1, by simpa using h.2.2.1, fun y hy => ?_⟩⟩
  obtain ⟨a, ha, rfl⟩ := List.mem_map.mp hy
  exact h.2.2.2 a ha

@[simp] theorem at_like (n : Nat) (d : D) (ys : List D) (M : MM) (Z : XD) (Q : QD) : ask (fun xs _ M Z Q => likeSp n xs M Z Q) [d, d] ys M Z Q = (plainD n d = true ∧ Q (.bl true) M) := propext ⟨fun ⟨d', e, h⟩ => by
  cases e
  exact h, fun h => ⟨d, rfl, h⟩⟩

@[simp] theorem at_mixed (g : Addr) (ds ys : List D) (M : MM) (Z : XD) (Q : QD) : ask (fun xs _ M Z Q => spMixed xs M Z Q) [.ref g, .lst ds] ys M Z Q = (M.lookup g = some .bag ∧ ds.length ≤ 1000 ∧ ∀ ys : List D, ys.Perm ds → Q (.lst ys) M) := propext ⟨fun ⟨g', n', e, h⟩ => by
  cases e
  exact h, fun h => ⟨g, ds, rfl, h⟩⟩

theorem at_names (g : Addr) (n : Nat) (ys : List D) (M : MM) (Z : XD) (Q : QD) (hl : M.lookup g = some .bag) (hn : n ≤ 26) (h : ∀ zs : List Str, zs.length = n → (∀ z ∈ zs, nameS z = true) → zs.Nodup → Q (.lst (zs.map D.str)) M) : ask (fun xs _ M Z Q => spNames xs M Z Q) [.ref g, .int n] ys M Z Q := ⟨g, n, rfl, hl, hn, h⟩

theorem in_strs (n : Str) (l : List Str) : inD (.str n) (l.map D.str) = decide (n ∈ l) := by
  unfold inD
  rw [List.any_map]
  induction l with
  | nil => rfl
  | cons x r ih =>
    rw [List.any_cons, ih]
    show (eqD (.str x) (.str n) || decide (n ∈ r)) = _
    rw [eqD_ss]
    by_cases e : x = n
    · simp [e]
    · have : ¬ n = x := fun z => e z.symm
      simp [e, this]
theorem okD_strs (l : List Str) : okD (.lst (l.map D.str)) = true := by
  refine okD_N (n := 1) ?_ (by decide)
  rw [okN_l, List.all_map, List.all_eq_true]
  intro x _
  rfl
theorem hu1 {A : Around} {k : Nat} (hr : Room k A) : A.units + 1 < cLine := Nat.lt_of_le_of_lt (by omega) (hu65 hr)

theorem map_str_inj : ∀ {xs ys : List Str}, xs.map D.str = ys.map D.str → xs = ys
  | [], [], _ => rfl
  | [], _ :: _, h => by cases h
  | _ :: _, [], h => by cases h
  | x :: xs, y :: ys, h => by
    rw [List.map_cons, List.map_cons] at h
    injection h with h1 h2
    cases h1
    rw [map_str_inj h2]

theorem lc_mapB {α : Type} {g : Tgt} {te : TD} {ds : SD} {Q : QD} {M : MM} (f : α → D) (k : α → D) : ∀ (ns : List α) (acc : List D), (∀ n ∈ ns, ∃ ds2, setT g (f n) ds = some ds2 ∧ ∀ Q' : QD, Q' (k n) M → te ds2 M X0 Q') → acc.length + ns.length ≤ sizeLine → Q (.lst (acc ++ ns.map k)) M → lcGo g dYes te ds Q (ns.map f) acc M
  | [], acc, _, _, q => by
    show Q (.lst acc) M
    simpa using q
  | n :: ns, acc, h, hl, q => by
    obtain ⟨ds2, e, h1⟩ := h n List.mem_cons_self
    simp only [List.length_cons] at hl
    show optK (setT g (f n) ds) _
    rw [e, optK_some]
    refine h1 _ ⟨by omega, ?_⟩
    refine lc_mapB f k ns (acc ++ [k n]) (fun m hm => h m (List.mem_cons_of_mem _ hm)) (by simp; omega) ?_
    simpa using q
theorem lc_filtB {α : Type} {g : Tgt} {tt : TTD} {te : TD} {ds : SD} {Q : QD} {M : MM} (f : α → D) (p : α → Bool) (k : α → D) : ∀ (ns : List α) (acc : List D), (∀ n ∈ ns, ∃ ds2, setT g (f n) ds = some ds2 ∧ (∀ Q' : Bool → MM → Prop, Q' (p n) M → tt ds2 M X0 Q') ∧ (p n = true → ∀ Q' : QD, Q' (k n) M → te ds2 M X0 Q')) → acc.length + ns.length ≤ sizeLine → Q (.lst (acc ++ (ns.filter p).map k)) M → lcGo g tt te ds Q (ns.map f) acc M
  | [], acc, _, _, q => by show Q (.lst acc) M; simpa using q
  | x :: xs, acc, h, hl, q => by
    obtain ⟨ds2, e, h1, h2⟩ := h x List.mem_cons_self
    simp only [List.length_cons] at hl
    show optK (setT g (f x) ds) _
    rw [e, optK_some]
    refine h1 _ ?_
    cases hp : p x with
    | true =>
      refine iteT (h2 hp _ ⟨by omega, lc_filtB f p k xs _ (fun y hy => h y (List.mem_cons_of_mem _ hy)) (by simp; omega) ?_⟩)
      rw [List.filter_cons, if_pos hp] at q
      simpa using q
    | false =>
      refine iteF (lc_filtB f p k xs _ (fun y hy => h y (List.mem_cons_of_mem _ hy)) (by omega) ?_)
      rw [List.filter_cons, if_neg (by rw [hp]; exact Bool.false_ne_true)] at q
      exact q

/-! what looks are -/
structure Lk where
  t : Bool
  row : List Str
  w : Str
def sqD (t : Bool) (xs : List D) : D := if t = true then .tup xs else .lst xs
@[simp] theorem sqD_t (xs : List D) : sqD true xs = .tup xs := rfl
@[simp] theorem sqD_f (xs : List D) : sqD false xs = .lst xs := rfl
def lkD (k : Lk) : D := .tup [sqD k.t (k.row.map D.str), .str k.w]
def seqOf : D → Option (List D)
  | .lst xs => some xs
  | .tup xs => some xs
  | _ => none
@[simp] theorem seqOf_l (xs : List D) : seqOf (.lst xs) = some xs := rfl
@[simp] theorem seqOf_t (xs : List D) : seqOf (.tup xs) = some xs := rfl
/-- a card that stands there earlier -/
def dupAt : List D → List D → Bool
  | _, [] => false
  | seen, x :: xs => inD x seen || dupAt (seen ++ [x]) xs
def rowB (cs : List Str) (xs : List D) : Bool := !xs.isEmpty && xs.all (fun x => inD x (cs.map D.str)) && !dupAt [] xs
def lookB (cs : List Str) : D → Bool
  | .tup [e, w] => (match seqOf e with
    | some xs => wordD w && rowB cs xs
    | none => false)
  | _ => false
/-- a value that may be asked -/
def argR (xs : List D) : Bool := decide (xs.length ≤ 100) && xs.all flatD
def argL : D → Bool
  | .tup [e, w] => fitB w && (match seqOf e with
    | some xs => argR xs
    | none => flatD e)
  | .tup xs => decide (xs.length ≤ 100)
  | .lst _ => true | .non => true | .bl _ => true | .int _ => true | .str _ => true
  | _ => false
theorem flat_ok {d : D} (h : flatD d = true) : okD d = true := by
  cases d <;> first | rfl | cases h
theorem flat_okN {d : D} (h : flatD d = true) (n : Nat) : okN n d = true := by
  cases d <;> first | (cases h; done) | (cases n <;> rfl)
theorem flats_ok {xs : List D} (h : xs.all flatD = true) : okD (.lst xs) = true := okD_N (n := 1) (by
  rw [okN_l, List.all_eq_true]
  exact fun x hx => flat_okN (List.all_eq_true.mp h x hx) 0) (by decide)

@[simp] def isSeq : D → Bool
  | .lst _ => true | .tup _ => true | _ => false
@[simp] def kindK : D → Bool
  | .lst _ => true | .tup _ => true | .non => true | .bl _ => true | .int _ => true | .str _ => true | _ => false
def spIsList : SpD := fun xs M Z Q => ∃ d, xs = [d] ∧ kindK d = true ∧ Q (.bl (isSeq d)) M
@[simp] theorem at_isList (d : D) (ys : List D) (M : MM) (Z : XD) (Q : QD) : ask (fun xs _ M Z Q => spIsList xs M Z Q) [d] ys M Z Q = (kindK d = true ∧ Q (.bl (isSeq d)) M) := propext ⟨fun ⟨d', e, h⟩ => by
  cases e
  exact h, fun h => ⟨d, rfl, h⟩⟩

def N_is_list : List Str := ["value"]
theorem sc_is_list : FnScope N_is_list ["value"] (defScope s_is_list) := ⟨rfl, rfl, rfl, by decide +kernel, rfl, by decide +kernel, by decide +kernel⟩
theorem fd_is_list (T : Tx P K mg) : ∃ fd, FunD K "is_list" "is_list" (defArgs s_is_list) (defBody s_is_list) (defScope s_is_list) [] [] (He.fAd K ("is_list", none)) fd := T.says.def_ 10 (d := d_is_list) rfl
theorem kp_is_list (T : Tx P K mg) : PySem.W.keepIn K (.ref (He.fAd K ("is_list", none))) = true := (fd_is_list T).elim fun _ F => F.kp
def t_is_list_0 : TSD := (dRet (dCB dIsi (dCons (dVar 0) (dCons (dTup (dCons (dC (.ty "list")) (dCons (dC (.ty "tuple")) dNil))) dNil))))
theorem ok_is_list (T : Tx P K mg) {fd : FuncData} (F : FunD K "is_list" "is_list" (defArgs s_is_list) (defBody s_is_list) (defScope s_is_list) [] [] (He.fAd K ("is_list", none)) fd) : FnOk P w K mg base (L2.CX P w) (1) (He.fAd K ("is_list", none)) fd ["value"] (spOf K spIsList) := by
  refine (fn_d (k := 0) (sp := spIsList) (t := t_is_list_0) F sc_is_list (fun X cdv A outer s H E hX hr hp => by
    subst hX
    exact (s_one (s_ret (d_callB k_isi (T.free (T.says.fact 6 rfl)) bf_isinstance (ad_cons (d_v 0) (ad_cons (d_tup (ad_cons (d_ty (T.free (T.says.fact 0 rfl)) bt_list) (ad_cons (d_ty (T.free (T.says.fact 5 rfl)) bt_tuple) ad_nil))) ad_nil)))))) (fun xs M Z Q h => ?_))
  obtain ⟨d, rfl, h, q⟩ := h
  refine ⟨rfl, ?_⟩
  cases d <;> first | (cases h; done) | (simp [N_is_list, t_is_list_0, sizeLine_eq]; exact q)
theorem fs_is_list (T : Tx P K mg) : FnS P w K mg base (1) (He.fAd K ("is_list", none)) [] (fun xs _ M Z Q => spIsList xs M Z Q) := by
  obtain ⟨fd, F⟩ := fd_is_list T
  exact fns_all (ok_is_list T F) (F.bindsN fun _ _ _ _ _ _ us hl => match us, hl with | [_], _ => rfl)

def spLook : SpD := fun xs M Z Q => ∃ (cs : List Str) (d : D), xs = [.lst (cs.map D.str), d] ∧ argL d = true ∧ cs.length ≤ 100 ∧ Q (.bl (lookB cs d)) M
@[simp] theorem at_look (cs : List Str) (d : D) (ys : List D) (M : MM) (Z : XD) (Q : QD) : ask (fun xs _ M Z Q => spLook xs M Z Q) [.lst (cs.map D.str), d] ys M Z Q = (argL d = true ∧ cs.length ≤ 100 ∧ Q (.bl (lookB cs d)) M) := propext ⟨fun ⟨cs', d', e, h⟩ => by
  injection e with e1 e2
  injection e1 with e1
  injection e2 with e2 _
  cases e2
  cases map_str_inj e1
  exact h, fun h => ⟨cs, d, rfl, h⟩⟩

theorem cutD_to {α : Type} (xs : List α) (k : Nat) : cutD xs none (some (k : Int)) = xs.take k := by
  unfold cutD
  simp only [HT.sIx_none, HT.sIx_nat]
  rw [List.drop_zero, Nat.sub_zero]
  by_cases h : k ≤ xs.length
  · rw [Nat.min_eq_left h]
  · rw [Nat.min_eq_right (by omega), List.take_of_length_le (Nat.le_refl _), List.take_of_length_le (by omega)]
theorem enumd_mem : ∀ {xs : List D} {k : Nat} {d : D}, d ∈ enumd k xs → ∃ (i : Nat) (x : D), d = .tup [.int i, x] ∧ i < k + xs.length ∧ x ∈ xs
  | x :: xs, k, d, h => by
    rcases List.mem_cons.mp h with rfl | h
    · exact ⟨k, x, rfl, by simp, by simp⟩
    · obtain ⟨i, y, e, h1, h2⟩ := enumd_mem h
      exact ⟨i, y, e, by simp; omega, List.mem_cons_of_mem _ h2⟩
def dupF (all : List D) : D → Bool
  | .tup [.int i, x] => inD x (all.take i.toNat)
  | _ => false
theorem enum_dup : ∀ (xs seen : List D), (enumd seen.length xs).any (dupF (seen ++ xs)) = dupAt seen xs
  | [], _ => rfl
  | x :: xs, seen => by
    have ih := enum_dup xs (seen ++ [x])
    rw [List.length_append, List.append_assoc] at ih
    show (dupF (seen ++ x :: xs) (.tup [.int seen.length, x]) || (enumd (seen.length + 1) xs).any (dupF (seen ++ x :: xs))) = (inD x seen || dupAt (seen ++ [x]) xs)
    rw [← ih]
    congr 1
    show inD x ((seen ++ x :: xs).take (seen.length : Int).toNat) = _
    rw [Int.toNat_natCast, List.take_left']
    rfl
theorem flat_take {xs : List D} (h : xs.all flatD = true) (k : Nat) : (xs.take k).all flatD = true := List.all_eq_true.mpr fun x hx => List.all_eq_true.mp h x (List.mem_of_mem_take hx)

def N_is_look : List Str := ["cards", "value", "some", "card", "at"]
theorem sc_is_look : FnScope N_is_look ["cards", "value"] (defScope s_is_look) := ⟨rfl, rfl, rfl, by decide +kernel, rfl, by decide +kernel, by decide +kernel⟩
theorem fd_is_look (T : Tx P K mg) : ∃ fd, FunD K "is_look" "is_look" (defArgs s_is_look) (defBody s_is_look) (defScope s_is_look) [] [] (He.fAd K ("is_look", none)) fd := T.says.def_ 11 (d := d_is_look) rfl
theorem kp_is_look (T : Tx P K mg) : PySem.W.keepIn K (.ref (He.fAd K ("is_look", none))) = true := (fd_is_look T).elim fun _ F => F.kp
def t_is_look_1 : TSD := (dRet (dC (.bl false)))
def t_is_look_4 : TSD := (dRet (dC (.bl false)))
def t_is_look_5 : TSD := (dRet (dNotV (dCB (dAllG fun bs => bs.any id) (dCons (dLc (iEnumV 2) (.tup [4, 3]) dYes (dOp (dInG id) (dVar 3) (dSl (dVar 2) dNoPart (dPart (dVar 4)))) [4, 3]) dNil))))
def t_is_look_3 : TSD := dSeq (dIfS (dOr (dTest (dOp dEq (dCB dLen (dCons (dVar 2) dNil)) (dC (.int 0)))) (dNot (dTest (dCB (dAllG fun bs => bs.all id) (dCons (dLc (iQ (dVar 2)) (.one 3) dYes (dOp (dInG id) (dVar 3) (dVar 0)) [3]) dNil))))) t_is_look_4 dNext) t_is_look_5
def t_is_look_2 : TSD := dSeq (dSet (dOp dIx (dVar 1) (dC (.int 0))) 2) t_is_look_3
def t_is_look_0 : TSD := dSeq (dIfS (dOr (dNot (dTest (dCB dIsi (dCons (dVar 1) (dCons (dC (.ty "tuple")) dNil))))) (dOr (dTest (dOp dNe (dCB dLen (dCons (dVar 1) dNil)) (dC (.int 2)))) (dOr (dNot (dTest (dCallS (fun xs _ M Z Q => spIsList xs M Z Q) (dCons (dOp dIx (dVar 1) (dC (.int 0))) dNil) dNil))) (dNot (dTest (dCallS (fnS isWordF) (dCons (dOp dIx (dVar 1) (dC (.int 1))) dNil) dNil)))))) t_is_look_1 dNext) t_is_look_2
theorem go_look {cs : List Str} {ys : List D} {e w : D} {M : MM} {Z : XD} {Q : QD} (he : e = .lst ys ∨ e = .tup ys) (hr : argR ys = true) (hcs : cs.length ≤ 100) (q : Q (.bl (rowB cs ys)) M) : t_is_look_2 { nx := fun _ M' => Q .non M', rt := Q, xc := fun C fs _ M' => Z C fs M' } [some (.lst (cs.map D.str)), some (.tup [e, w]), none, none, none] M := by
  have hl : ys.length ≤ 100 := of_decide_eq_true (Bool.and_eq_true_iff.mp hr).1
  have fl := (Bool.and_eq_true_iff.mp hr).2
  rcases he with rfl | rfl
  · simp [t_is_look_2, L2.atI, ixN]
    refine cut_go ?_
    have n0 : (ys.length : Int) = 0 ↔ ys = [] := by
      constructor
      · intro z
        exact List.length_eq_zero_iff.mp (by omega)
      · intro z
        rw [z]
        rfl
    have nl : ys.length ≤ 100000 := by omega
    simp [t_is_look_3, sizeLine_eq, nl, n0]
    by_cases y0 : ys = []
    · rw [if_pos y0]
      unfold rowB at q
      rw [y0] at q
      simp [t_is_look_4]
      exact q
    rw [if_neg y0]
    refine lc_map (fun x => .bl (inD x (cs.map D.str))) ys _ (fun x hx => ⟨_, rfl, fun Q' q' => ?_⟩) (by rw [sizeLine_eq]; simp; omega) ?_
    · simp [okD_strs, flat_ok (List.all_eq_true.mp fl x hx)]
      exact q'
    rw [List.nil_append]
    dsimp only
    rw [boolsD_of]
    simp only [optK_some]
    have e1 : (false ∈ ys.map fun x => inD x (cs.map D.str)) ↔ (ys.all fun x => inD x (cs.map D.str)) = false := by
      refine ⟨fun h => ?_, fun h => ?_⟩
      · obtain ⟨x, hx, e⟩ := List.mem_map.mp h
        exact List.all_eq_false.mpr ⟨x, hx, by rw [e]; simp⟩
      · obtain ⟨x, hx, e⟩ := List.all_eq_false.mp h
        exact List.mem_map.mpr ⟨x, hx, by simpa using e⟩
    have q2 := q
    unfold rowB at q2
    rw [show ys.isEmpty = false by cases ys with | nil => exact absurd rfl y0 | cons a b => rfl] at q2
    cases ea : ys.all fun x => inD x (cs.map D.str) with
    | false =>
      rw [ea] at q2
      rw [if_pos (e1.mpr ea)]
      simp [t_is_look_4]
      exact q2
    | true =>
      rw [ea] at q2
      rw [if_neg (fun z => by rw [e1.mp z] at ea; cases ea)]
      refine cut_go ?_
      simp [t_is_look_5]
      refine lc_map (fun d => .bl (dupF ys d)) (enumd 0 ys) _ (fun d hd => ?_) (by rw [sizeLine_eq, enumd_len]; simp; omega) ?_
      · obtain ⟨i, x, rfl, hi, hx⟩ := enumd_mem hd
        refine ⟨_, rfl, fun Q' q' => ?_⟩
        have q' : Q' (.bl (inD x (ys.take (i : Int).toNat))) M := q'
        rw [Int.toNat_natCast] at q'
        simp [cutD_to, flat_ok (List.all_eq_true.mp fl x hx), flats_ok (flat_take fl i), List.all_eq_true.mp fl x hx, flat_take fl i]
        first | exact q' | exact ⟨List.all_eq_true.mp fl x hx, List.all_eq_true.mp (flat_take fl i), q'⟩ | exact ⟨List.all_eq_true.mp fl x hx, q'⟩
      rw [List.nil_append]
      dsimp only
      rw [boolsD_of]
      simp only [optK_some]
      have e2 : ((enumd 0 ys).map (dupF ys)).any id = dupAt [] ys := by
        rw [List.any_map]
        exact enum_dup ys []
      rw [e2]
      simpa using q2
  · simp [t_is_look_2, L2.atI, ixN]
    refine cut_go ?_
    have n0 : (ys.length : Int) = 0 ↔ ys = [] := by
      constructor
      · intro z
        exact List.length_eq_zero_iff.mp (by omega)
      · intro z
        rw [z]
        rfl
    have nl : ys.length ≤ 100000 := by omega
    simp [t_is_look_3, sizeLine_eq, nl, n0]
    by_cases y0 : ys = []
    · rw [if_pos y0]
      unfold rowB at q
      rw [y0] at q
      simp [t_is_look_4]
      exact q
    rw [if_neg y0]
    refine lc_map (fun x => .bl (inD x (cs.map D.str))) ys _ (fun x hx => ⟨_, rfl, fun Q' q' => ?_⟩) (by rw [sizeLine_eq]; simp; omega) ?_
    · simp [okD_strs, flat_ok (List.all_eq_true.mp fl x hx)]
      exact q'
    rw [List.nil_append]
    dsimp only
    rw [boolsD_of]
    simp only [optK_some]
    have e1 : (false ∈ ys.map fun x => inD x (cs.map D.str)) ↔ (ys.all fun x => inD x (cs.map D.str)) = false := by
      refine ⟨fun h => ?_, fun h => ?_⟩
      · obtain ⟨x, hx, e⟩ := List.mem_map.mp h
        exact List.all_eq_false.mpr ⟨x, hx, by rw [e]; simp⟩
      · obtain ⟨x, hx, e⟩ := List.all_eq_false.mp h
        exact List.mem_map.mpr ⟨x, hx, by simpa using e⟩
    have q2 := q
    unfold rowB at q2
    rw [show ys.isEmpty = false by cases ys with | nil => exact absurd rfl y0 | cons a b => rfl] at q2
    cases ea : ys.all fun x => inD x (cs.map D.str) with
    | false =>
      rw [ea] at q2
      rw [if_pos (e1.mpr ea)]
      simp [t_is_look_4]
      exact q2
    | true =>
      rw [ea] at q2
      rw [if_neg (fun z => by rw [e1.mp z] at ea; cases ea)]
      refine cut_go ?_
      simp [t_is_look_5]
      refine lc_map (fun d => .bl (dupF ys d)) (enumd 0 ys) _ (fun d hd => ?_) (by rw [sizeLine_eq, enumd_len]; simp; omega) ?_
      · obtain ⟨i, x, rfl, hi, hx⟩ := enumd_mem hd
        refine ⟨_, rfl, fun Q' q' => ?_⟩
        have q' : Q' (.bl (inD x (ys.take (i : Int).toNat))) M := q'
        rw [Int.toNat_natCast] at q'
        simp [cutD_to, flat_ok (List.all_eq_true.mp fl x hx), flats_ok (flat_take fl i), List.all_eq_true.mp fl x hx, flat_take fl i]
        first | exact q' | exact ⟨List.all_eq_true.mp fl x hx, List.all_eq_true.mp (flat_take fl i), q'⟩ | exact ⟨List.all_eq_true.mp fl x hx, q'⟩
      rw [List.nil_append]
      dsimp only
      rw [boolsD_of]
      simp only [optK_some]
      have e2 : ((enumd 0 ys).map (dupF ys)).any id = dupAt [] ys := by
        rw [List.any_map]
        exact enum_dup ys []
      rw [e2]
      simpa using q2
theorem ok_is_look (T : Tx P K mg) {fd : FuncData} (F : FunD K "is_look" "is_look" (defArgs s_is_look) (defBody s_is_look) (defScope s_is_look) [] [] (He.fAd K ("is_look", none)) fd) : FnOk P w K mg base (L2.CX P w) (2) (He.fAd K ("is_look", none)) fd ["cards", "value"] (spOf K spLook) := by
  refine (fn_d (k := 1) (sp := spLook) (t := t_is_look_0) F sc_is_look (fun X cdv A outer s H E hX hr hp => by
    subst hX
    exact (s_cons (s_if (PWD.pt (w_or (t_not (d_tval (d_callB k_isi (T.free (T.says.fact 6 rfl)) bf_isinstance (ad_cons (d_v 1) (ad_cons (d_ty (T.free (T.says.fact 5 rfl)) bt_tuple) ad_nil))))) (w_or (d_tcmp (c_ne hr.units) (d_callB k_len (T.free (T.says.fact 1 rfl)) bf_len (ad_cons (d_v 1) ad_nil)) d_int (nomark _)) (w_or (t_not (d_tval (d_call (cal_fn (fs_is_list T) (hr.mono (by omega))) (kp_is_list T) (T.glo (T.says.fact 24 rfl)) (ad_cons (d_ix (d_v 1) d_int) ad_nil)))) (w_or1 (t_not (d_tval (d_call (cal_fn (fs_isWord T) (hr.mono (by omega))) (kp_is_word T) (T.glo (T.says.fact 23 rfl)) (ad_cons (d_ix (d_v 1) d_int) ad_nil)))))))))
    (s_one (s_ret d_bl))
    s_nil)
    (s_cons (s_set (i := 2) sc_is_look.nd rfl (.inr rfl) (d_ix (d_v 1) d_int))
    (s_cons (s_if (PWD.pt (w_or (d_tcmp (c_eq hr.units) (d_callB k_len (T.free (T.says.fact 1 rfl)) bf_len (ad_cons (d_v 2) ad_nil)) d_int (nomark _)) (w_or1 (t_not (d_tval (d_callB (k_all rfl) (T.free (T.says.fact 9 rfl)) bf_all (ad_cons (d_lc (own := [("card", 3)]) (g := .one 3) rfl sc_is_look.nd (i_seq (d_v 2)) (blkOk_by (own := [("card", 3)]) (N := N_is_look) (sc := defScope s_is_look) (by decide +kernel))
      (fun _ _ _ _ _ => pg_name (i := 3) sc_is_look.nd rfl (Or.inl rfl)) (fun _ _ _ _ _ => ts_nil) (fun _ _ _ _ _ => (d_cmp (c_in (hu65 hr)) (d_v 3) (d_v 0) rfl))) ad_nil)))))))
    (s_one (s_ret d_bl))
    s_nil)
    (s_one (s_ret (d_not (d_callB (k_any rfl) (T.free (T.says.fact 26 rfl)) bf_any (ad_cons (d_lc (own := [("at", 4), ("card", 3)]) (g := .tup [4, 3]) rfl sc_is_look.nd (i_enumV (T.free (T.says.fact 25 rfl)) (d_v 2)) (blkOk_by (own := [("at", 4), ("card", 3)]) (N := N_is_look) (sc := defScope s_is_look) (by decide +kernel))
      (fun _ _ _ _ _ => pg_tup rfl (pgs_cons (pg_name (i := 4) sc_is_look.nd rfl (Or.inl rfl)) (pgs_cons (pg_name (i := 3) sc_is_look.nd rfl (Or.inl rfl)) pgs_nil))) (fun _ _ _ _ _ => ts_nil) (fun _ _ _ _ _ => (d_cmp (c_in (hu65 hr)) (d_v 3) (d_slice (d_v 2) od_none (od_some (d_v 4))) rfl))) ad_nil))))))))) (fun xs M Z Q h => ?_))
  obtain ⟨cs, d, rfl, ha, hcs, q⟩ := h
  refine ⟨rfl, ?_⟩
  cases d with
  | tup xs =>
    match xs, ha, q with
    | [], ha, q => simp [N_is_look, t_is_look_0, t_is_look_1, sizeLine_eq]; exact q
    | [a], ha, q => simp [N_is_look, t_is_look_0, t_is_look_1, sizeLine_eq]; exact q
    | a :: b :: c :: r, ha, q =>
      have hl : (a :: b :: c :: r).length ≤ 100 := of_decide_eq_true ha
      have n2 : ¬ ((r.length : Int) + 1 + 1 + 1 = 2) := by omega
      have n3 : r.length + 1 + 1 + 1 ≤ 100000 := by simp at hl; omega
      simp [N_is_look, t_is_look_0, t_is_look_1, sizeLine_eq, n2, n3]
      exact q
    | [.lst ys, w], ha, q =>
      have hw : fitB w = true := (Bool.and_eq_true_iff.mp ha).1
      have he := (Bool.and_eq_true_iff.mp ha).2
      simp [N_is_look, t_is_look_0, sizeLine_eq, L2.atI, ixN, isWordF, hw]
      cases hww : wordD w with
      | false =>
        simp [t_is_look_1]
        have : lookB cs (.tup [.lst ys, w]) = false := by simp [lookB, hww]
        rw [this] at q
        exact q
      | true =>
        simp
        refine cut_go (go_look (.inl rfl) he hcs ?_)
        have : lookB cs (.tup [.lst ys, w]) = rowB cs ys := by simp [lookB, hww]
        rw [this] at q
        exact q
    | [.tup ys, w], ha, q =>
      have hw : fitB w = true := (Bool.and_eq_true_iff.mp ha).1
      have he := (Bool.and_eq_true_iff.mp ha).2
      simp [N_is_look, t_is_look_0, sizeLine_eq, L2.atI, ixN, isWordF, hw]
      cases hww : wordD w with
      | false =>
        simp [t_is_look_1]
        have : lookB cs (.tup [.tup ys, w]) = false := by simp [lookB, hww]
        rw [this] at q
        exact q
      | true =>
        simp
        refine cut_go (go_look (.inr rfl) he hcs ?_)
        have : lookB cs (.tup [.tup ys, w]) = rowB cs ys := by simp [lookB, hww]
        rw [this] at q
        exact q
    | [.non, w], ha, q =>
      simp [N_is_look, t_is_look_0, t_is_look_1, sizeLine_eq, L2.atI, ixN]
      exact q
    | [.bl _, w], ha, q =>
      simp [N_is_look, t_is_look_0, t_is_look_1, sizeLine_eq, L2.atI, ixN]
      exact q
    | [.int _, w], ha, q =>
      simp [N_is_look, t_is_look_0, t_is_look_1, sizeLine_eq, L2.atI, ixN]
      exact q
    | [.str _, w], ha, q =>
      simp [N_is_look, t_is_look_0, t_is_look_1, sizeLine_eq, L2.atI, ixN]
      exact q
    | [.ty _, w], ha, q => simp [argL, seqOf] at ha
    | [.obj _ _, w], ha, q => simp [argL, seqOf] at ha
    | [.exn _ _, w], ha, q => simp [argL, seqOf] at ha
    | [.dK _, w], ha, q => simp [argL, seqOf] at ha
    | [.dT _, w], ha, q => simp [argL, seqOf] at ha
    | [.ref _, w], ha, q => simp [argL, seqOf] at ha
    | [.glo _, w], ha, q => simp [argL, seqOf] at ha
    | [.scr _, w], ha, q => simp [argL, seqOf] at ha
    | [.act _ _ _, w], ha, q => simp [argL, seqOf] at ha
  | _ => first | (cases ha; done) | (simp [N_is_look, t_is_look_0, t_is_look_1]; exact q)
theorem fs_is_look (T : Tx P K mg) : FnS P w K mg base (2) (He.fAd K ("is_look", none)) [] (fun xs _ M Z Q => spLook xs M Z Q) := by
  obtain ⟨fd, F⟩ := fd_is_look T
  exact fns_all (ok_is_look T F) (F.bindsN fun _ _ _ _ _ _ us hl => match us, hl with | [_, _], _ => rfl)


end
end L2.Dl
namespace L2.Dl
open PySem PySem.Spec PyProof.Rows
section
variable {P : Program} {w : World} {K : PySem.W.Frag} {mg : Str → Option Value} {base : Heap}
def badAt (cs : List Str) : Nat → List D → Option Nat
  | _, [] => none
  | k, d :: ds => if lookB cs d = true then badAt cs (k + 1) ds else some k
def needLR (cs : List Str) (ds : List D) : Res := match badAt cs 0 ds with | some i => .error (er "InvalidLook" "at" (.int (i : Nat))) | none => .ok .non
def spNeedL : SpD := fun xs M Z Q => ∃ (cs : List Str) (L : D) (ds : List D), xs = [.lst (cs.map D.str), L] ∧ (L = .lst ds ∨ L = .tup ds) ∧ ds.all argL = true ∧ cs.length ≤ 100 ∧ outK (needLR cs ds) M Z Q
theorem needL_at {cs : List Str} {L : D} {ds : List D} (hL : L = .lst ds ∨ L = .tup ds) (ys : List D) (M : MM) (Z : XD) (Q : QD) : ask (fun xs _ M Z Q => spNeedL xs M Z Q) [.lst (cs.map D.str), L] ys M Z Q = (ds.all argL = true ∧ cs.length ≤ 100 ∧ outK (needLR cs ds) M Z Q) := propext ⟨fun ⟨cs', L', ds', e, h1, h⟩ => by
  injection e with e1 e2
  injection e1 with e1
  injection e2 with e2 _
  cases map_str_inj e1
  subst e2
  have : ds' = ds := by
    rcases hL with rfl | rfl <;> rcases h1 with h1 | h1 <;> first | (cases h1; rfl) | cases h1
  subst this
  exact h, fun h => ⟨cs, L, ds, rfl, hL, h⟩⟩
@[simp] theorem at_needL (cs : List Str) (ds ys : List D) (M : MM) (Z : XD) (Q : QD) : ask (fun xs _ M Z Q => spNeedL xs M Z Q) [.lst (cs.map D.str), .lst ds] ys M Z Q = (ds.all argL = true ∧ cs.length ≤ 100 ∧ outK (needLR cs ds) M Z Q) := needL_at (.inl rfl) ys M Z Q
@[simp] theorem at_needLT (cs : List Str) (ds ys : List D) (M : MM) (Z : XD) (Q : QD) : ask (fun xs _ M Z Q => spNeedL xs M Z Q) [.lst (cs.map D.str), .tup ds] ys M Z Q = (ds.all argL = true ∧ cs.length ≤ 100 ∧ outK (needLR cs ds) M Z Q) := needL_at (.inr rfl) ys M Z Q

def N_need_looks : List Str := ["cards", "looks", "at", "look"]
theorem sc_need_looks : FnScope N_need_looks ["cards", "looks"] (defScope s_need_looks) := ⟨rfl, rfl, rfl, by decide +kernel, rfl, by decide +kernel, by decide +kernel⟩
theorem fd_need_looks (T : Tx P K mg) : ∃ fd, FunD K "need_looks" "need_looks" (defArgs s_need_looks) (defBody s_need_looks) (defScope s_need_looks) [] [] (He.fAd K ("need_looks", none)) fd := T.says.def_ 12 (d := d_need_looks) rfl
theorem kp_need_looks (T : Tx P K mg) : PySem.W.keepIn K (.ref (He.fAd K ("need_looks", none))) = true := (fd_need_looks T).elim fun _ F => F.kp
def t_need_looks_2 : TSD := (dRaise1 "InvalidLook" "InvalidLook" "at" (dVar 2))
def t_need_looks_1 : TSD := (dIfS (dNot (dTest (dCallS (fun xs _ M Z Q => spLook xs M Z Q) (dCons (dVar 0) (dCons (dVar 3) dNil)) dNil))) t_need_looks_2 dNext)
def t_need_looks_0 : TSD := (dFor (iEnumV 1) (.tup [2, 3]) t_need_looks_1)
theorem ok_need_looks (T : Tx P K mg) {fd : FuncData} (F : FunD K "need_looks" "need_looks" (defArgs s_need_looks) (defBody s_need_looks) (defScope s_need_looks) [] [] (He.fAd K ("need_looks", none)) fd) : FnOk P w K mg base (L2.CX P w) (3) (He.fAd K ("need_looks", none)) fd ["cards", "looks"] (spOf K spNeedL) := by
  refine (fn_d (k := 2) (sp := spNeedL) (t := t_need_looks_0) F sc_need_looks (fun X cdv A outer s H E hX hr hp => by
    subst hX
    exact (s_one (s_for hp rfl (i_enumV (T.free (T.says.fact 25 rfl)) (d_v 1)) (g_tup (is := [2, 3]) rfl (gs_cons (g_one (i := 2) sc_need_looks.nd rfl (.inl rfl)) (gs_cons (g_one (i := 3) sc_need_looks.nd rfl (.inl rfl)) gs_nil)))
    (s_one (s_if (t_not (d_tval (d_call (cal_fn (fs_is_look T) (hr.mono (by omega))) (kp_is_look T) (T.glo (T.says.fact 27 rfl)) (ad_cons (d_v 0) (ad_cons (d_v 3) ad_nil)))))
    (s_one (s_raise1 rfl (ec_InvalidLook T).1 ie_InvalidLook (taker_none ((ec_InvalidLook T).2.2 "code" (by decide))) (taker_none ((ec_InvalidLook T).2.2 "at" (by decide))) (hr.mono (by omega)) (rz T (by decide)) (ec_InvalidLook T).2.1.kp (T.glo (T.says.fact 28 rfl)) (d_v 2)))
    s_nil))))) (fun xs M Z Q h => ?_))
  obtain ⟨cs, L, ds, rfl, hL, ha, hcs, h⟩ := h
  refine ⟨rfl, ?_⟩
  rcases hL with rfl | rfl
  · simp [N_need_looks, t_need_looks_0]
    refine for_inv (fun rem ds' M' => M' = M ∧ ∃ (k : Nat) (rest : List D) (x2 x3 : Option D), rem = enumd k rest ∧ badAt cs k rest = badAt cs 0 ds ∧ rest.all argL = true ∧ ds' = [some (.lst (cs.map D.str)), some (.lst ds), x2, x3]) ?turn ?done _ _ _ ⟨rfl, 0, ds, _, _, rfl, rfl, ha, rfl⟩
    case done =>
      rintro ds' M' ⟨rfl, k, rest, x2, x3, e, hb, _, rfl⟩
      cases rest with
      | cons a b => cases e
      | nil =>
        unfold needLR at h
        rw [← hb] at h
        exact h
    case turn =>
      rintro x xs ds' M' ⟨rfl, k, rest, x2, x3, e, hb, har, rfl⟩
      cases rest with
      | nil => cases e
      | cons d rest =>
        cases e
        rw [List.all_cons, Bool.and_eq_true] at har
        refine ⟨_, rfl, fun E' h1 h2 h3 h4 h5 => ?_⟩
        simp [t_need_looks_1, har.1, hcs]
        cases hl : lookB cs d with
        | true =>
          simp
          refine h4 _ _ ⟨rfl, k + 1, rest, _, _, rfl, ?_, har.2, rfl⟩
          rw [← hb]
          show _ = if lookB cs d = true then _ else _
          rw [if_pos hl]
        | false =>
          have e2 : badAt cs 0 ds = some k := by
            rw [← hb]
            show (if lookB cs d = true then _ else _) = _
            rw [if_neg (by rw [hl]; simp)]
          unfold needLR at h
          rw [e2] at h
          simp [t_need_looks_2, h3]
          exact h
  · simp [N_need_looks, t_need_looks_0]
    refine for_inv (fun rem ds' M' => M' = M ∧ ∃ (k : Nat) (rest : List D) (x2 x3 : Option D), rem = enumd k rest ∧ badAt cs k rest = badAt cs 0 ds ∧ rest.all argL = true ∧ ds' = [some (.lst (cs.map D.str)), some (.tup ds), x2, x3]) ?turn ?done _ _ _ ⟨rfl, 0, ds, _, _, rfl, rfl, ha, rfl⟩
    case done =>
      rintro ds' M' ⟨rfl, k, rest, x2, x3, e, hb, _, rfl⟩
      cases rest with
      | cons a b => cases e
      | nil =>
        unfold needLR at h
        rw [← hb] at h
        exact h
    case turn =>
      rintro x xs ds' M' ⟨rfl, k, rest, x2, x3, e, hb, har, rfl⟩
      cases rest with
      | nil => cases e
      | cons d rest =>
        cases e
        rw [List.all_cons, Bool.and_eq_true] at har
        refine ⟨_, rfl, fun E' h1 h2 h3 h4 h5 => ?_⟩
        simp [t_need_looks_1, har.1, hcs]
        cases hl : lookB cs d with
        | true =>
          simp
          refine h4 _ _ ⟨rfl, k + 1, rest, _, _, rfl, ?_, har.2, rfl⟩
          rw [← hb]
          show _ = if lookB cs d = true then _ else _
          rw [if_pos hl]
        | false =>
          have e2 : badAt cs 0 ds = some k := by
            rw [← hb]
            show (if lookB cs d = true then _ else _) = _
            rw [if_neg (by rw [hl]; simp)]
          unfold needLR at h
          rw [e2] at h
          simp [t_need_looks_2, h3]
          exact h

theorem fs_need_looks (T : Tx P K mg) : FnS P w K mg base (3) (He.fAd K ("need_looks", none)) [] (fun xs _ M Z Q => spNeedL xs M Z Q) := by
  obtain ⟨fd, F⟩ := fd_need_looks T
  exact fns_all (ok_need_looks T F) (F.bindsN fun _ _ _ _ _ _ us hl => match us, hl with | [_, _], _ => rfl)

/-- a look with a list of its own -/
def cpyD : D → D
  | .tup [.lst xs, w] => .tup [.lst xs, w]
  | .tup [.tup xs, w] => .tup [.lst xs, w]
  | d => d
def isLk : D → Bool
  | .tup [.lst _, _] => true
  | .tup [.tup _, _] => true
  | _ => false
theorem isLk_ex {d : D} (h : isLk d = true) : (∃ xs w, d = .tup [.lst xs, w]) ∨ ∃ xs w, d = .tup [.tup xs, w] := by
  unfold isLk at h
  split at h
  · exact .inl ⟨_, _, rfl⟩
  · exact .inr ⟨_, _, rfl⟩
  · cases h
def copF : List D → Option Res
  | [.lst ds] => if ds.all isLk = true ∧ ds.length ≤ 1000 then some (.ok (.lst (ds.map cpyD))) else none
  | [.tup ds] => if ds.all isLk = true ∧ ds.length ≤ 1000 then some (.ok (.lst (ds.map cpyD))) else none
  | _ => none

def N_copied_looks : List Str := ["looks", "some", "word"]
theorem sc_copied_looks : FnScope N_copied_looks ["looks"] (defScope s_copied_looks) := ⟨rfl, rfl, rfl, by decide +kernel, rfl, by decide +kernel, by decide +kernel⟩
theorem fd_copied_looks (T : Tx P K mg) : ∃ fd, FunD K "copied_looks" "copied_looks" (defArgs s_copied_looks) (defBody s_copied_looks) (defScope s_copied_looks) [] [] (He.fAd K ("copied_looks", none)) fd := T.says.def_ 13 (d := d_copied_looks) rfl
theorem kp_copied_looks (T : Tx P K mg) : PySem.W.keepIn K (.ref (He.fAd K ("copied_looks", none))) = true := (fd_copied_looks T).elim fun _ F => F.kp
def t_copied_looks_0 : TSD := (dRet (dLc (iQ (dVar 0)) (.tup [1, 2]) dYes (dTup (dCons (dCB dListC (dCons (dVar 1) dNil)) (dCons (dVar 2) dNil))) [1, 2]))
theorem ok_copied_looks (T : Tx P K mg) {fd : FuncData} (F : FunD K "copied_looks" "copied_looks" (defArgs s_copied_looks) (defBody s_copied_looks) (defScope s_copied_looks) [] [] (He.fAd K ("copied_looks", none)) fd) : FnOk P w K mg base (L2.CX P w) (1) (He.fAd K ("copied_looks", none)) fd ["looks"] (spOf K (fnSp copF)) := by
  refine (fn_d (k := 0) (sp := (fnSp copF)) (t := t_copied_looks_0) F sc_copied_looks (fun X cdv A outer s H E hX hr hp => by
    subst hX
    exact (s_one (s_ret (d_lc (own := [("some", 1), ("word", 2)]) (g := .tup [1, 2]) rfl sc_copied_looks.nd (i_seq (d_v 0)) (blkOk_by (own := [("some", 1), ("word", 2)]) (N := N_copied_looks) (sc := defScope s_copied_looks) (by decide +kernel))
      (fun _ _ _ _ _ => pg_tup rfl (pgs_cons (pg_name (i := 1) sc_copied_looks.nd rfl (Or.inl rfl)) (pgs_cons (pg_name (i := 2) sc_copied_looks.nd rfl (Or.inl rfl)) pgs_nil))) (fun _ _ _ _ _ => ts_nil) (fun _ _ _ _ _ => (d_tup (ad_cons (d_callTy k_list (T.free (T.says.fact 0 rfl)) bt_list (ad_cons (d_v 1) ad_nil)) (ad_cons (d_v 2) ad_nil)))))))) (fun xs M Z Q h => ?_))
  obtain ⟨r, hr, h⟩ := optK_ex h
  unfold copF at hr
  split at hr
  · rename_i ds
    refine ⟨rfl, ?_⟩
    split at hr
    · rename_i hc
      cases hr
      simp [N_copied_looks, t_copied_looks_0]
      refine lc_map cpyD ds _ (fun d hd => ?_) (by rw [sizeLine_eq]; simp; omega) (by rw [List.nil_append]; exact h)
      rcases isLk_ex (List.all_eq_true.mp hc.1 d hd) with ⟨xs, w, rfl⟩ | ⟨xs, w, rfl⟩
      · refine ⟨_, rfl, fun Q' q' => ?_⟩
        simp [sizeLine_eq]
        exact q'
      · refine ⟨_, rfl, fun Q' q' => ?_⟩
        simp [sizeLine_eq]
        exact q'
    · cases hr
  · rename_i ds
    refine ⟨rfl, ?_⟩
    split at hr
    · rename_i hc
      cases hr
      simp [N_copied_looks, t_copied_looks_0]
      refine lc_map cpyD ds _ (fun d hd => ?_) (by rw [sizeLine_eq]; simp; omega) (by rw [List.nil_append]; exact h)
      rcases isLk_ex (List.all_eq_true.mp hc.1 d hd) with ⟨xs, w, rfl⟩ | ⟨xs, w, rfl⟩
      · refine ⟨_, rfl, fun Q' q' => ?_⟩
        simp [sizeLine_eq]
        exact q'
      · refine ⟨_, rfl, fun Q' q' => ?_⟩
        simp [sizeLine_eq]
        exact q'
    · cases hr
  · cases hr
theorem fs_copied_looks (T : Tx P K mg) : FnS P w K mg base (1) (He.fAd K ("copied_looks", none)) [] (fun xs _ M Z Q => (fnSp copF) xs M Z Q) := by
  obtain ⟨fd, F⟩ := fd_copied_looks T
  exact fns_all (ok_copied_looks T F) (F.bindsN fun _ _ _ _ _ _ us hl => match us, hl with | [_], _ => rfl)

@[simp] theorem lookS_same (k : Str) (v : D) (l : List (Str × D)) : List.lookup k ((k, v) :: l) = some v := by simp [List.lookup]
@[simp] theorem lookS_ne {a b : Str} (v : D) (l : List (Str × D)) (h : ¬ a = b) : List.lookup a ((b, v) :: l) = List.lookup a l := by
  have e : (a == b) = false := by simpa using h
  simp [List.lookup, e]
@[simp] theorem ne_own_cards_own_looks : (Str.ofString "own_cards" = Str.ofString "own_looks") = False := eq_false (by decide +kernel)
@[simp] theorem ne_own_cards_own_order : (Str.ofString "own_cards" = Str.ofString "own_order") = False := eq_false (by decide +kernel)
@[simp] theorem ne_own_cards_own_words : (Str.ofString "own_cards" = Str.ofString "own_words") = False := eq_false (by decide +kernel)
@[simp] theorem ne_own_cards_own_some : (Str.ofString "own_cards" = Str.ofString "own_some") = False := eq_false (by decide +kernel)
@[simp] theorem ne_own_looks_own_cards : (Str.ofString "own_looks" = Str.ofString "own_cards") = False := eq_false (by decide +kernel)
@[simp] theorem ne_own_looks_own_order : (Str.ofString "own_looks" = Str.ofString "own_order") = False := eq_false (by decide +kernel)
@[simp] theorem ne_own_looks_own_words : (Str.ofString "own_looks" = Str.ofString "own_words") = False := eq_false (by decide +kernel)
@[simp] theorem ne_own_looks_own_some : (Str.ofString "own_looks" = Str.ofString "own_some") = False := eq_false (by decide +kernel)
@[simp] theorem ne_own_order_own_cards : (Str.ofString "own_order" = Str.ofString "own_cards") = False := eq_false (by decide +kernel)
@[simp] theorem ne_own_order_own_looks : (Str.ofString "own_order" = Str.ofString "own_looks") = False := eq_false (by decide +kernel)
@[simp] theorem ne_own_order_own_words : (Str.ofString "own_order" = Str.ofString "own_words") = False := eq_false (by decide +kernel)
@[simp] theorem ne_own_order_own_some : (Str.ofString "own_order" = Str.ofString "own_some") = False := eq_false (by decide +kernel)
@[simp] theorem ne_own_words_own_cards : (Str.ofString "own_words" = Str.ofString "own_cards") = False := eq_false (by decide +kernel)
@[simp] theorem ne_own_words_own_looks : (Str.ofString "own_words" = Str.ofString "own_looks") = False := eq_false (by decide +kernel)
@[simp] theorem ne_own_words_own_order : (Str.ofString "own_words" = Str.ofString "own_order") = False := eq_false (by decide +kernel)
@[simp] theorem ne_own_words_own_some : (Str.ofString "own_words" = Str.ofString "own_some") = False := eq_false (by decide +kernel)
@[simp] theorem ne_own_some_own_cards : (Str.ofString "own_some" = Str.ofString "own_cards") = False := eq_false (by decide +kernel)
@[simp] theorem ne_own_some_own_looks : (Str.ofString "own_some" = Str.ofString "own_looks") = False := eq_false (by decide +kernel)
@[simp] theorem ne_own_some_own_order : (Str.ofString "own_some" = Str.ofString "own_order") = False := eq_false (by decide +kernel)
@[simp] theorem ne_own_some_own_words : (Str.ofString "own_some" = Str.ofString "own_words") = False := eq_false (by decide +kernel)

def rankF (cs ds o : List D) (ws : List (Key × D)) : List (Str × D) := [("own_cards", .lst cs), ("own_looks", .lst (ds.map cpyD)), ("own_order", .lst o), ("own_words", .dK ws)]
def jamF (ds s : List D) : List (Str × D) := [("own_looks", .lst (ds.map cpyD)), ("own_some", .lst s)]
def rankD (cs ds o : List D) (ws : List (Key × D)) : D := .obj "Ranked" (rankF cs ds o ws)
def jamD (ds s : List D) : D := .obj "Jammed" (jamF ds s)
@[simp] theorem cls_rank (cs ds o : List D) (ws : List (Key × D)) (M : MM) : clsOf (rankD cs ds o ws) M = some ((Str.ofString "Ranked"), rankF cs ds o ws) := rfl
@[simp] theorem cls_jam (ds s : List D) (M : MM) : clsOf (jamD ds s) M = some ((Str.ofString "Jammed"), jamF ds s) := rfl
def rankMk : List D → MkR
  | [.lst cs, .lst ds, .lst o, .dK ws] => if ds.all isLk = true ∧ ds.length ≤ 1000 then some (.ok (rankF cs ds o ws)) else none
  | [.lst cs, .tup ds, .lst o, .dK ws] => if ds.all isLk = true ∧ ds.length ≤ 1000 then some (.ok (rankF cs ds o ws)) else none
  | _ => none
def jamMk : List D → MkR
  | [.lst _, .lst ds, .lst s] => if ds.all isLk = true ∧ ds.length ≤ 1000 then some (.ok (jamF ds s)) else none
  | [.lst _, .tup ds, .lst s] => if ds.all isLk = true ∧ ds.length ≤ 1000 then some (.ok (jamF ds s)) else none
  | _ => none

def N_Ranked___init__ : List Str := ["self", "cards", "looks", "order", "words"]
theorem sc_Ranked___init__ : FnScope N_Ranked___init__ ["self", "cards", "looks", "order", "words"] (defScope s_Ranked___init__) := ⟨rfl, rfl, rfl, by decide +kernel, rfl, by decide +kernel, by decide +kernel⟩
theorem fd_Ranked___init__ (T : Tx P K mg) : ∃ fd, FunD K "__init__" "Ranked.__init__" (defArgs s_Ranked___init__) (defBody s_Ranked___init__) (defScope s_Ranked___init__) [] [] (He.fAd K ("Ranked", some "__init__")) fd := T.says.def_ 14 (d := d_Ranked___init__) rfl
theorem kp_Ranked___init__ (T : Tx P K mg) : PySem.W.keepIn K (.ref (He.fAd K ("Ranked", some "__init__"))) = true := (fd_Ranked___init__ T).elim fun _ F => F.kp
def t_Ranked___init___2 : TSD := (dFldS ["Ranked"] "own_words" (dVar 0) (dCB dDictC (dCons (dVar 4) dNil)))
def t_Ranked___init___1 : TSD := dSeq (dFldS ["Ranked"] "own_order" (dVar 0) (dCB dListC (dCons (dVar 3) dNil))) t_Ranked___init___2
def t_Ranked___init___0 : TSD := dSeq (dFldS2 ["Ranked", "Jammed"] "own_cards" "own_looks" (dVar 0) (dVar 0) (dTup (dCons (dCB dListC (dCons (dVar 1) dNil)) (dCons (dCallS (fnS copF) (dCons (dVar 2) dNil) dNil) dNil)))) t_Ranked___init___1
theorem ok_Ranked___init__ (T : Tx P K mg) {fd : FuncData} (F : FunD K "__init__" "Ranked.__init__" (defArgs s_Ranked___init__) (defBody s_Ranked___init__) (defScope s_Ranked___init__) [] [] (He.fAd K ("Ranked", some "__init__")) fd) : FnOk P w K mg base (L2.CX P w) (2) (He.fAd K ("Ranked", some "__init__")) fd ["self", "cards", "looks", "order", "words"] (spOf K (iniSp "Ranked" rankMk)) := by
  refine (fn_d (k := 1) (sp := (iniSp "Ranked" rankMk)) (t := t_Ranked___init___0) F sc_Ranked___init__ (fun X cdv A outer s H E hX hr hp => by
    subst hX
    exact (s_cons (s_fld2 rfl (fldB_ok (T.fx_ 11 rfl)) (fldB_ok (T.fx_ 12 rfl)) (d_tup (ad_cons (d_callTy k_list (T.free (T.says.fact 0 rfl)) bt_list (ad_cons (d_v 1) ad_nil)) (ad_cons (d_call (cal_fn (fs_copied_looks T) (hr.mono (by omega))) (kp_copied_looks T) (T.glo (T.says.fact 29 rfl)) (ad_cons (d_v 2) ad_nil)) ad_nil))) (d_v 0) (d_v 0))
    (s_cons (s_fld (fldB_ok (T.fx_ 13 rfl)) (d_callTy k_list (T.free (T.says.fact 0 rfl)) bt_list (ad_cons (d_v 3) ad_nil)) (d_v 0))
    (s_one (s_fld (fldB_ok (T.fx_ 14 rfl)) (d_callTy k_dict (T.free (T.says.fact 30 rfl)) bt_dict (ad_cons (d_v 4) ad_nil)) (d_v 0)))))) (fun xs M Z Q h => ?_))
  obtain ⟨p, rest, r, rfl, hp, hr, ho, he⟩ := iniSp_cases h
  have e2 := fun mo' => lookup_put (mo' := mo') hp
  unfold rankMk at hr
  split at hr
  · rename_i cs ds o ws
    refine ⟨rfl, ?_⟩
    split at hr
    · rename_i hc
      cases hr
      have ec : copF [.lst ds] = some (.ok (.lst (ds.map cpyD))) := by
        show (if ds.all isLk = true ∧ ds.length ≤ 1000 then some (Except.ok (D.lst (ds.map cpyD))) else none) = _
        rw [if_pos hc]
      simp [N_Ranked___init__, t_Ranked___init___0, hp, e2, ec, sizeLine_eq, putD]
      have e3 := fun mo mo' => lookup_put (mo' := mo') (e2 mo)
      (try simp [e2, e3, putD])
      refine cut_go ?_
      simp [t_Ranked___init___1, hp, e2, e3, putD]
      refine cut_go ?_
      simp [t_Ranked___init___2, hp, e2, e3, putD]
      exact ho _ rfl
    · cases hr
  · rename_i cs ds o ws
    refine ⟨rfl, ?_⟩
    split at hr
    · rename_i hc
      cases hr
      have ec : copF [.tup ds] = some (.ok (.lst (ds.map cpyD))) := by
        show (if ds.all isLk = true ∧ ds.length ≤ 1000 then some (Except.ok (D.lst (ds.map cpyD))) else none) = _
        rw [if_pos hc]
      simp [N_Ranked___init__, t_Ranked___init___0, hp, e2, ec, sizeLine_eq, putD]
      have e3 := fun mo mo' => lookup_put (mo' := mo') (e2 mo)
      (try simp [e2, e3, putD])
      refine cut_go ?_
      simp [t_Ranked___init___1, hp, e2, e3, putD]
      refine cut_go ?_
      simp [t_Ranked___init___2, hp, e2, e3, putD]
      exact ho _ rfl
    · cases hr
  · cases hr
theorem fs_Ranked___init__ (T : Tx P K mg) : FnS P w K mg base (2) (He.fAd K ("Ranked", some "__init__")) [] (fun xs _ M Z Q => (iniSp "Ranked" rankMk) xs M Z Q) := by
  obtain ⟨fd, F⟩ := fd_Ranked___init__ T
  exact fns_all (ok_Ranked___init__ T F) (F.bindsN fun _ _ _ _ _ _ us hl => match us, hl with | [_, _, _, _, _], _ => rfl)

def N_Jammed___init__ : List Str := ["self", "cards", "looks", "some"]
theorem sc_Jammed___init__ : FnScope N_Jammed___init__ ["self", "cards", "looks", "some"] (defScope s_Jammed___init__) := ⟨rfl, rfl, rfl, by decide +kernel, rfl, by decide +kernel, by decide +kernel⟩
theorem fd_Jammed___init__ (T : Tx P K mg) : ∃ fd, FunD K "__init__" "Jammed.__init__" (defArgs s_Jammed___init__) (defBody s_Jammed___init__) (defScope s_Jammed___init__) [] [] (He.fAd K ("Jammed", some "__init__")) fd := T.says.def_ 15 (d := d_Jammed___init__) rfl
theorem kp_Jammed___init__ (T : Tx P K mg) : PySem.W.keepIn K (.ref (He.fAd K ("Jammed", some "__init__"))) = true := (fd_Jammed___init__ T).elim fun _ F => F.kp
def t_Jammed___init___1 : TSD := (dFldS ["Jammed"] "own_some" (dVar 0) (dCB dListC (dCons (dVar 3) dNil)))
def t_Jammed___init___0 : TSD := dSeq (dFldS ["Ranked", "Jammed"] "own_looks" (dVar 0) (dCallS (fnS copF) (dCons (dVar 2) dNil) dNil)) t_Jammed___init___1
theorem ok_Jammed___init__ (T : Tx P K mg) {fd : FuncData} (F : FunD K "__init__" "Jammed.__init__" (defArgs s_Jammed___init__) (defBody s_Jammed___init__) (defScope s_Jammed___init__) [] [] (He.fAd K ("Jammed", some "__init__")) fd) : FnOk P w K mg base (L2.CX P w) (2) (He.fAd K ("Jammed", some "__init__")) fd ["self", "cards", "looks", "some"] (spOf K (iniSp "Jammed" jamMk)) := by
  refine (fn_d (k := 1) (sp := (iniSp "Jammed" jamMk)) (t := t_Jammed___init___0) F sc_Jammed___init__ (fun X cdv A outer s H E hX hr hp => by
    subst hX
    exact (s_cons (s_fld (fldB_ok (T.fx_ 12 rfl)) (d_call (cal_fn (fs_copied_looks T) (hr.mono (by omega))) (kp_copied_looks T) (T.glo (T.says.fact 29 rfl)) (ad_cons (d_v 2) ad_nil)) (d_v 0))
    (s_one (s_fld (fldB_ok (T.fx_ 15 rfl)) (d_callTy k_list (T.free (T.says.fact 0 rfl)) bt_list (ad_cons (d_v 3) ad_nil)) (d_v 0))))) (fun xs M Z Q h => ?_))
  obtain ⟨p, rest, r, rfl, hp, hr, ho, he⟩ := iniSp_cases h
  have e2 := fun mo' => lookup_put (mo' := mo') hp
  unfold jamMk at hr
  split at hr
  · rename_i cs ds s
    refine ⟨rfl, ?_⟩
    split at hr
    · rename_i hc
      cases hr
      have ec : copF [.lst ds] = some (.ok (.lst (ds.map cpyD))) := by
        show (if ds.all isLk = true ∧ ds.length ≤ 1000 then some (Except.ok (D.lst (ds.map cpyD))) else none) = _
        rw [if_pos hc]
      simp [N_Jammed___init__, t_Jammed___init___0, hp, e2, ec, sizeLine_eq, putD]
      refine cut_go ?_
      simp [t_Jammed___init___1, hp, e2, putD]
      exact ho _ rfl
    · cases hr
  · rename_i cs ds s
    refine ⟨rfl, ?_⟩
    split at hr
    · rename_i hc
      cases hr
      have ec : copF [.tup ds] = some (.ok (.lst (ds.map cpyD))) := by
        show (if ds.all isLk = true ∧ ds.length ≤ 1000 then some (Except.ok (D.lst (ds.map cpyD))) else none) = _
        rw [if_pos hc]
      simp [N_Jammed___init__, t_Jammed___init___0, hp, e2, ec, sizeLine_eq, putD]
      refine cut_go ?_
      simp [t_Jammed___init___1, hp, e2, putD]
      exact ho _ rfl
    · cases hr
  · cases hr
theorem fs_Jammed___init__ (T : Tx P K mg) : FnS P w K mg base (2) (He.fAd K ("Jammed", some "__init__")) [] (fun xs _ M Z Q => (iniSp "Jammed" jamMk) xs M Z Q) := by
  obtain ⟨fd, F⟩ := fd_Jammed___init__ T
  exact fns_all (ok_Jammed___init__ T F) (F.bindsN fun _ _ _ _ _ _ us hl => match us, hl with | [_, _, _, _], _ => rfl)

theorem cs_Ranked {X : Cx} (T : TxX X) (hr : Room 3 X.A) : CalS X (He.ga X.K "Ranked") [] (fnS (mkO "Ranked" rankMk)) := cal_obj (He.mkr_ok (T.says.fact 31 rfl)) (fs_Ranked___init__ T) hr

theorem cs_Jammed {X : Cx} (T : TxX X) (hr : Room 3 X.A) : CalS X (He.ga X.K "Jammed") [] (fnS (mkO "Jammed" jamMk)) := cal_obj (He.mkr_ok (T.says.fact 32 rfl)) (fs_Jammed___init__ T) hr

def spRB : SpD := fun xs M Z Q => ∃ cs ds o ws, xs = [rankD cs ds o ws] ∧ Q (.bl true) M
def spJB : SpD := fun xs M Z Q => ∃ ds s, xs = [jamD ds s] ∧ Q (.bl false) M
@[simp] theorem at_RB (cs ds o : List D) (ws : List (Key × D)) (ys : List D) (M : MM) (Z : XD) (Q : QD) : ask (fun xs _ M Z Q => spRB xs M Z Q) [rankD cs ds o ws] ys M Z Q = Q (.bl true) M := propext ⟨fun ⟨_, _, _, _, _, h⟩ => h, fun h => ⟨_, _, _, _, rfl, h⟩⟩
@[simp] theorem at_JB (ds s : List D) (ys : List D) (M : MM) (Z : XD) (Q : QD) : ask (fun xs _ M Z Q => spJB xs M Z Q) [jamD ds s] ys M Z Q = Q (.bl false) M := propext ⟨fun ⟨_, _, _, h⟩ => h, fun h => ⟨_, _, rfl, h⟩⟩

def N_Ranked___bool__ : List Str := ["self"]
theorem sc_Ranked___bool__ : FnScope N_Ranked___bool__ ["self"] (defScope s_Ranked___bool__) := ⟨rfl, rfl, rfl, by decide +kernel, rfl, by decide +kernel, by decide +kernel⟩
theorem fd_Ranked___bool__ (T : Tx P K mg) : ∃ fd, FunD K "__bool__" "Ranked.__bool__" (defArgs s_Ranked___bool__) (defBody s_Ranked___bool__) (defScope s_Ranked___bool__) [] [] (He.fAd K ("Ranked", some "__bool__")) fd := T.says.def_ 16 (d := d_Ranked___bool__) rfl
theorem kp_Ranked___bool__ (T : Tx P K mg) : PySem.W.keepIn K (.ref (He.fAd K ("Ranked", some "__bool__"))) = true := (fd_Ranked___bool__ T).elim fun _ F => F.kp
def t_Ranked___bool___0 : TSD := (dRet (dC (.bl true)))
theorem ok_Ranked___bool__ (T : Tx P K mg) {fd : FuncData} (F : FunD K "__bool__" "Ranked.__bool__" (defArgs s_Ranked___bool__) (defBody s_Ranked___bool__) (defScope s_Ranked___bool__) [] [] (He.fAd K ("Ranked", some "__bool__")) fd) : FnOk P w K mg base (L2.CX P w) (1) (He.fAd K ("Ranked", some "__bool__")) fd ["self"] (spOf K spRB) := by
  refine (fn_d (k := 0) (sp := spRB) (t := t_Ranked___bool___0) F sc_Ranked___bool__ (fun X cdv A outer s H E hX hr hp => by
    subst hX
    exact (s_one (s_ret d_bl))) (fun xs M Z Q h => ?_))
  obtain ⟨cs, ds, o, ws, rfl, q⟩ := h
  refine ⟨rfl, ?_⟩
  simp [N_Ranked___bool__, t_Ranked___bool___0]
  exact q
theorem fs_Ranked___bool__ (T : Tx P K mg) : FnS P w K mg base (1) (He.fAd K ("Ranked", some "__bool__")) [] (fun xs _ M Z Q => spRB xs M Z Q) := by
  obtain ⟨fd, F⟩ := fd_Ranked___bool__ T
  exact fns_all (ok_Ranked___bool__ T F) (F.bindsN fun _ _ _ _ _ _ us hl => match us, hl with | [_], _ => rfl)

def N_Jammed___bool__ : List Str := ["self"]
theorem sc_Jammed___bool__ : FnScope N_Jammed___bool__ ["self"] (defScope s_Jammed___bool__) := ⟨rfl, rfl, rfl, by decide +kernel, rfl, by decide +kernel, by decide +kernel⟩
theorem fd_Jammed___bool__ (T : Tx P K mg) : ∃ fd, FunD K "__bool__" "Jammed.__bool__" (defArgs s_Jammed___bool__) (defBody s_Jammed___bool__) (defScope s_Jammed___bool__) [] [] (He.fAd K ("Jammed", some "__bool__")) fd := T.says.def_ 17 (d := d_Jammed___bool__) rfl
theorem kp_Jammed___bool__ (T : Tx P K mg) : PySem.W.keepIn K (.ref (He.fAd K ("Jammed", some "__bool__"))) = true := (fd_Jammed___bool__ T).elim fun _ F => F.kp
def t_Jammed___bool___0 : TSD := (dRet (dC (.bl false)))
theorem ok_Jammed___bool__ (T : Tx P K mg) {fd : FuncData} (F : FunD K "__bool__" "Jammed.__bool__" (defArgs s_Jammed___bool__) (defBody s_Jammed___bool__) (defScope s_Jammed___bool__) [] [] (He.fAd K ("Jammed", some "__bool__")) fd) : FnOk P w K mg base (L2.CX P w) (1) (He.fAd K ("Jammed", some "__bool__")) fd ["self"] (spOf K spJB) := by
  refine (fn_d (k := 0) (sp := spJB) (t := t_Jammed___bool___0) F sc_Jammed___bool__ (fun X cdv A outer s H E hX hr hp => by
    subst hX
    exact (s_one (s_ret d_bl))) (fun xs M Z Q h => ?_))
  obtain ⟨ds, s, rfl, q⟩ := h
  refine ⟨rfl, ?_⟩
  simp [N_Jammed___bool__, t_Jammed___bool___0]
  exact q
theorem fs_Jammed___bool__ (T : Tx P K mg) : FnS P w K mg base (1) (He.fAd K ("Jammed", some "__bool__")) [] (fun xs _ M Z Q => spJB xs M Z Q) := by
  obtain ⟨fd, F⟩ := fd_Jammed___bool__ T
  exact fns_all (ok_Jammed___bool__ T F) (F.bindsN fun _ _ _ _ _ _ us hl => match us, hl with | [_], _ => rfl)

/-! what told_back finds -/
def keyN (i : Nat) : D := .int i
def inAt (ls : List Lk) (c : Str) (i : Nat) : Bool := ((ls[i]?).map fun k => decide (c ∈ k.row)).getD false
def wAt (ls : List Lk) (i : Nat) : Str := ((ls[i]?).map Lk.w).getD Str.empty
def freeB (ls : List Lk) (left : List Nat) (c : Str) : Bool := decide ((((left.filter (inAt ls c)).map fun i => (Sum.inr (wAt ls i) : Key)).foldl kAdd []).length < 2)
def putW (ls : List Lk) (c : Str) (left : List Nat) (ws : List (Key × D)) : List (Key × D) := left.foldl (fun ws i => if inAt ls c i = true then putKD ws (.inr c) (.str (wAt ls i)) else ws) ws
def remS (rest : List Str) (c : Str) : List Str := match rest.findIdx? fun m => decide (m = c) with | some j => rest.eraseIdx j | none => rest
inductive Tb where
  | ran (o : List Str) (ws : List (Key × D))
  | jam (left : List Nat)
def runT (ls : List Lk) : Nat → List Str → List Nat → List Str → List (Key × D) → Tb
  | _, [], _, o, ws => .ran o ws
  | 0, _ :: _, left, _, _ => .jam left
  | n + 1, r :: rest, left, o, ws => match (r :: rest).filter (freeB ls left) with
    | [] => .jam left
    | c :: _ => runT ls n (remS (r :: rest) c) (left.filter fun i => !inAt ls c i) (o ++ [c]) (putW ls c left ws)
def tbD (cs : List Str) (ls : List Lk) : Tb → D
  | .ran o ws => rankD (cs.map D.str) (ls.map lkD) (o.map D.str) ws
  | .jam left => jamD (ls.map lkD) (left.map keyN)
def startT (cs : List Str) (ls : List Lk) : Tb := runT ls cs.length cs (List.range ls.length) [] []
structure LkOk (cs : List Str) (k : Lk) : Prop where
  ne : k.row ≠ []
  sub : ∀ c ∈ k.row, c ∈ cs
  w : wordS k.w = true
  len : k.row.length ≤ 100
def toldK (cs : List Str) (ds : List D) (M : MM) (Z : XD) (Q : QD) : Prop := match badAt cs 0 ds with
  | some i => Z "InvalidLook" [("code", .str "InvalidLook"), ("at", .int (i : Nat))] M
  | none => ∀ ls : List Lk, ds = ls.map lkD → (∀ k ∈ ls, LkOk cs k) → Q (tbD cs ls (startT cs ls)) M
def spTold : SpD := fun xs M Z Q => ∃ (cs : List Str) (ds : List D), xs = [.lst (cs.map D.str), .lst ds] ∧ ds.all argL = true ∧ cs.length ≤ 100 ∧ ds.length ≤ 1000 ∧ toldK cs ds M Z Q
@[simp] theorem at_told (cs : List Str) (ds ys : List D) (M : MM) (Z : XD) (Q : QD) : ask (fun xs _ M Z Q => spTold xs M Z Q) [.lst (cs.map D.str), .lst ds] ys M Z Q = (ds.all argL = true ∧ cs.length ≤ 100 ∧ ds.length ≤ 1000 ∧ toldK cs ds M Z Q) := propext ⟨fun ⟨cs', ds', e, h⟩ => by
  injection e with e1 e2
  injection e1 with e1
  injection e2 with e2 _
  injection e2 with e2
  cases map_str_inj e1
  subst e2
  exact h, fun h => ⟨cs, ds, rfl, h⟩⟩
theorem in_names {x : D} {cs : List Str} (hf : flatD x = true) (h : inD x (cs.map D.str) = true) : ∃ c ∈ cs, x = .str c := by
  unfold inD at h
  obtain ⟨y, hy, e⟩ := List.any_eq_true.mp h
  obtain ⟨c, hc, rfl⟩ := List.mem_map.mp hy
  cases x with
  | str z =>
    rw [eqD_ss] at e
    have := of_decide_eq_true e
    exact ⟨c, hc, by rw [this]⟩
  | _ => first | (cases hf; done) | (cases e; done)
theorem rows_of {cs : List Str} : ∀ {xs : List D}, xs.all flatD = true → (xs.all fun x => inD x (cs.map D.str)) = true → ∃ row : List Str, xs = row.map D.str ∧ ∀ c ∈ row, c ∈ cs
  | [], _, _ => ⟨[], rfl, fun c hc => nomatch hc⟩
  | x :: xs, h1, h2 => by
    rw [List.all_cons, Bool.and_eq_true] at h1 h2
    obtain ⟨row, e, hr⟩ := rows_of h1.2 h2.2
    obtain ⟨c, hc, rfl⟩ := in_names h1.1 h2.1
    refine ⟨c :: row, by rw [e]; rfl, fun d hd => ?_⟩
    rcases List.mem_cons.mp hd with rfl | hd
    · exact hc
    · exact hr d hd
theorem look_ex {cs : List Str} {d : D} (ha : argL d = true) (h : lookB cs d = true) : ∃ k, d = lkD k ∧ LkOk cs k := by
  have go : ∀ (t : Bool) (xs : List D) (w : D), d = .tup [sqD t xs, w] → argR xs = true → (wordD w && rowB cs xs) = true → ∃ k, d = lkD k ∧ LkOk cs k := by
    intro t xs w e hr h
    obtain ⟨hw, hb⟩ := Bool.and_eq_true_iff.mp h
    unfold rowB at hb
    obtain ⟨hb, _⟩ := Bool.and_eq_true_iff.mp hb
    obtain ⟨h1, h2⟩ := Bool.and_eq_true_iff.mp hb
    obtain ⟨r1, r2⟩ := Bool.and_eq_true_iff.mp hr
    obtain ⟨row, rfl, hs⟩ := rows_of r2 h2
    cases w with
    | str z =>
      refine ⟨⟨t, row, z⟩, e, fun q => ?_, hs, hw, ?_⟩
      · have q : row = [] := q
        rw [q] at h1
        cases h1
      · have := of_decide_eq_true r1
        simpa using this
    | _ => cases hw
  unfold lookB at h
  split at h
  · rename_i e w
    have ha2 := (Bool.and_eq_true_iff.mp ha).2
    cases e with
    | lst xs => exact go false xs w rfl ha2 h
    | tup xs => exact go true xs w rfl ha2 h
    | _ => cases h
  · cases h
theorem looks_ex {cs : List Str} : ∀ {ds : List D} {k : Nat}, ds.all argL = true → badAt cs k ds = none → ∃ ls : List Lk, ds = ls.map lkD ∧ ∀ l ∈ ls, LkOk cs l
  | [], _, _, _ => ⟨[], rfl, fun l hl => nomatch hl⟩
  | d :: ds, k, ha, hb => by
    rw [List.all_cons, Bool.and_eq_true] at ha
    have hb2 : (if lookB cs d = true then badAt cs (k + 1) ds else some k) = none := hb
    by_cases hl : lookB cs d = true
    · rw [if_pos hl] at hb2
      obtain ⟨l, rfl, ok⟩ := look_ex ha.1 hl
      obtain ⟨ls, rfl, oks⟩ := looks_ex ha.2 hb2
      refine ⟨l :: ls, rfl, fun j hj => ?_⟩
      rcases List.mem_cons.mp hj with rfl | hj
      · exact ok
      · exact oks j hj
    · rw [if_neg hl] at hb2
      cases hb2
/-- a set comprehension over numbers -/
theorem sc_keys {g : Tgt} {tt : TTD} {te : TD} {ds : SD} {M : MM} {R : List Key → MM → Prop} (p : Nat → Bool) (k : Nat → Key) : ∀ (items : List Nat) (acc : List Key), (∀ i ∈ items, ∃ ds2, setT g (keyN i) ds = some ds2 ∧ (∀ Q' : Bool → MM → Prop, Q' (p i) M → tt ds2 M X0 Q') ∧ (p i = true → ∀ Q' : QD, (∀ y, keyD y = some (k i) → Q' y M) → te ds2 M X0 Q')) → acc.length + items.length ≤ 1000 → R (((items.filter p).map k).foldl kAdd acc) M → scGo g tt te ds R (items.map keyN) acc M
  | [], acc, _, _, h => h
  | i :: items, acc, hi, hl, h => by
    obtain ⟨ds2, e, h1, h2⟩ := hi i List.mem_cons_self
    have ih := sc_keys (g := g) (tt := tt) (te := te) (ds := ds) (M := M) (R := R) p k items
    rw [List.length_cons] at hl
    rw [List.filter_cons] at h
    show optK (setT g (keyN i) ds) _
    rw [e, optK_some]
    refine h1 _ ?_
    cases hp : p i with
    | true =>
      rw [hp, if_pos rfl] at h
      rw [if_pos rfl]
      refine h2 hp _ fun y ey => ?_
      rw [ey, optK_some]
      refine ⟨by omega, ih _ (fun j hj => hi j (List.mem_cons_of_mem _ hj)) ?_ h⟩
      have : (kAdd acc (k i)).length ≤ acc.length + 1 := by
        unfold kAdd
        split
        · omega
        · simp
      omega
    | false =>
      rw [hp, if_neg Bool.false_ne_true] at h
      rw [if_neg Bool.false_ne_true]
      exact ih _ (fun j hj => hi j (List.mem_cons_of_mem _ hj)) (by omega) h
theorem put_skip {M : MM} {p q : Addr} {mo mo' : MO} (h : p ≠ q) : put ((p, mo) :: M) q mo' = (p, mo) :: put M q mo' := by
  unfold put
  rw [List.map_cons, if_neg h]
theorem drop_skip {M : MM} {p q : Addr} {mo : MO} (h : ¬ p = q) : drop ((p, mo) :: M) q = (p, mo) :: drop M q := by
  unfold drop
  rw [List.filter_cons, if_pos (by simpa using h)]
theorem lk_at {ls : List Lk} {i : Nat} (h : i < ls.length) : ∃ k, k ∈ ls ∧ L2.atI (ls.map lkD) (i : Int) = some (lkD k) ∧ (∀ c, inAt ls c i = decide (c ∈ k.row)) ∧ wAt ls i = k.w := by
  refine ⟨ls[i], List.getElem_mem h, ?_, fun c => ?_, ?_⟩
  · unfold L2.atI ixN
    simp [h]
  · unfold inAt
    simp [h]
  · unfold wAt
    simp [h]


end
end L2.Dl
namespace L2.Dl
open PySem PySem.Spec PyProof.Rows
section
variable {P : Program} {w : World} {K : PySem.W.Frag} {mg : Str → Option Value} {base : Heap}
def N_told_back : List Str := ["cards", "looks", "order", "words", "left", "rest", "free", "card", "at"]
theorem sc_told_back : FnScope N_told_back ["cards", "looks"] (defScope s_told_back) := ⟨rfl, rfl, rfl, by decide +kernel, rfl, by decide +kernel, by decide +kernel⟩
theorem fd_told_back (T : Tx P K mg) : ∃ fd, FunD K "told_back" "told_back" (defArgs s_told_back) (defBody s_told_back) (defScope s_told_back) [] [] (He.fAd K ("told_back", none)) fd := T.says.def_ 18 (d := d_told_back) rfl
theorem kp_told_back (T : Tx P K mg) : PySem.W.keepIn K (.ref (He.fAd K ("told_back", none))) = true := (fd_told_back T).elim fun _ F => F.kp
def t_told_back_6 : TSD := (dRet (dCallS (fnS (mkO "Jammed" jamMk)) (dCons (dVar 0) (dCons (dVar 1) (dCons (dVar 4) dNil))) dNil))
def t_told_back_9 : TSD := (dPutK (dVar 3) (dOp dIx (dVar 6) (dC (.int 0))) (dOp dIx (dOp dIx (dVar 1) (dVar 8)) (dC (.int 1))))
def t_told_back_8 : TSD := (dIfS (dTest (dOp (dInG id) (dOp dIx (dVar 6) (dC (.int 0))) (dOp dIx (dOp dIx (dVar 1) (dVar 8)) (dC (.int 0))))) t_told_back_9 dNext)
def t_told_back_12 : TSD := (dDrop (dBM "list" dRemS (dVar 5) (dCons (dOp dIx (dVar 6) (dC (.int 0))) dNil)))
def t_told_back_11 : TSD := dSeq (dDrop (dBM "list" dAppend (dVar 2) (dCons (dOp dIx (dVar 6) (dC (.int 0))) dNil))) t_told_back_12
def t_told_back_10 : TSD := dSeq (dSet (dLc (iL (dVar 4)) (.one 8) (dTest (dOp (dInG fun b => !b) (dOp dIx (dVar 6) (dC (.int 0))) (dOp dIx (dOp dIx (dVar 1) (dVar 8)) (dC (.int 0))))) (dVar 8) [8]) 4) t_told_back_11
def t_told_back_7 : TSD := dSeq (dFor (iL (dVar 4)) (.one 8) t_told_back_8) t_told_back_10
def t_told_back_5 : TSD := dSeq (dIfS (dTest (dOp (dEqN id) (dVar 6) (dLst dNil))) t_told_back_6 dNext) t_told_back_7
def t_told_back_4 : TSD := dSeq (dSet (dLcR 5 (.one 7) (dTest (dOp dLt (dLenSc (iL (dVar 4)) (.one 8) (dTest (dOp (dInG id) (dVar 7) (dOp dIx (dOp dIx (dVar 1) (dVar 8)) (dC (.int 0))))) (dOp dIx (dOp dIx (dVar 1) (dVar 8)) (dC (.int 1))) [8]) (dC (.int 2)))) (dVar 7) [7]) 6) t_told_back_5
def t_told_back_13 : TSD := (dFrzS 2 (dFrzS 3 (dRet (dCallS (fnS (mkO "Ranked" rankMk)) (dCons (dVar 0) (dCons (dVar 1) (dCons (dVar 2) (dCons (dVar 3) dNil)))) dNil))))
def t_told_back_3 : TSD := dSeq (dWhile (dTest (dOp (dEqN not) (dVar 5) (dLst dNil))) t_told_back_4) t_told_back_13
def t_told_back_2 : TSD := dSeq (dSet (dCB dListM (dCons (dVar 0) dNil)) 5) t_told_back_3
def t_told_back_1 : TSD := dSeq (dAsg (dTup (dCons (dLstM dNil) (dCons dNewK (dCons (dListRg (dCB dLen (dCons (dVar 1) dNil))) dNil)))) (.tup [2, 3, 4])) t_told_back_2
def t_told_back_0 : TSD := dSeq (dDrop (dCallS (fun xs _ M Z Q => spNeedL xs M Z Q) (dCons (dVar 0) (dCons (dVar 1) dNil)) dNil)) t_told_back_1
theorem nkl {p : Addr} {M : MM} (h : ∀ x : MO, ¬ (p, x) ∈ M) : p ∉ keys M := fun z => by
  obtain ⟨⟨q, x⟩, hx, e⟩ := List.mem_map.mp z
  cases e
  exact h x hx
theorem ranged_key (n : Nat) : ranged 0 n = (List.range n).map keyN := by
  unfold ranged keyN
  exact List.map_congr_left fun i _ => by rw [Int.zero_add]
abbrev mst (pr pw po : Addr) (rest o : List Str) (ws : List (Key × D)) (M : MM) : MM := (pr, .lst (rest.map D.str)) :: (pw, .dK ws) :: (po, .lst (o.map D.str)) :: M
/-- where the while stands -/
def WhT (cs : List Str) (ls : List Lk) (po pw pr : Addr) (M : MM) (m : Nat) (ds' : SD) (M' : MM) : Prop := ∃ (rest o : List Str) (ws : List (Key × D)) (left : List Nat) (x6 x7 x8 : Option D), m = rest.length ∧ runT ls rest.length rest left o ws = startT cs ls ∧ (∀ i ∈ left, i < ls.length) ∧ left.length ≤ ls.length ∧ o.length + rest.length = cs.length ∧ ws.length ≤ o.length ∧ M' = mst pr pw po rest o ws M ∧ ds' = [some (.lst (cs.map D.str)), some (.lst (ls.map lkD)), some (.ref po), some (.ref pw), some (.lst (left.map keyN)), some (.ref pr), x6, x7, x8]
theorem runT_cons {ls : List Lk} {left : List Nat} {o rest : List Str} {ws : List (Key × D)} (h : ¬ rest = []) : runT ls rest.length rest left o ws = (match rest.filter (freeB ls left) with
    | [] => .jam left
    | c :: _ => runT ls (rest.length - 1) (remS rest c) (left.filter fun i => !inAt ls c i) (o ++ [c]) (putW ls c left ws)) := by
  cases rest with
  | nil => exact absurd rfl h
  | cons r rest => rfl
theorem put_has (ws : List (Key × D)) (k : Key) (v : D) : ((putKD ws k v).any fun kv => decide (kv.1 = k)) = true := by
  unfold putKD
  split
  · rename_i h
    obtain ⟨kv, hkv, e⟩ := List.any_eq_true.mp h
    refine List.any_eq_true.mpr ⟨(kv.1, v), List.mem_map.mpr ⟨kv, hkv, ?_⟩, e⟩
    rw [if_pos (of_decide_eq_true e)]
  · rw [List.any_append]
    simp
theorem put_same {ws : List (Key × D)} {k : Key} (h : (ws.any fun kv => decide (kv.1 = k)) = true) (v : D) : (putKD ws k v).length = ws.length := by
  unfold putKD
  rw [if_pos h, List.length_map]
theorem put_more (ws : List (Key × D)) (k : Key) (v : D) : (putKD ws k v).length ≤ ws.length + 1 := by
  unfold putKD
  split
  · rw [List.length_map]
    omega
  · simp
theorem putW_has (ls : List Lk) (c : Str) : ∀ (left : List Nat) (ws : List (Key × D)), (ws.any fun kv => decide (kv.1 = Sum.inr c)) = true → (putW ls c left ws).length = ws.length
  | [], _, _ => rfl
  | i :: left, ws, h => by
    show (putW ls c left (if inAt ls c i = true then putKD ws (.inr c) (.str (wAt ls i)) else ws)).length = _
    split
    · rw [putW_has ls c left _ (put_has ..), put_same h]
    · exact putW_has ls c left ws h
theorem putW_len (ls : List Lk) (c : Str) : ∀ (left : List Nat) (ws : List (Key × D)), (putW ls c left ws).length ≤ ws.length + 1
  | [], ws => Nat.le_succ _
  | i :: left, ws => by
    show (putW ls c left (if inAt ls c i = true then putKD ws (.inr c) (.str (wAt ls i)) else ws)).length ≤ _
    split
    · rw [putW_has ls c left _ (put_has ..)]
      exact put_more ..
    · exact putW_len ls c left ws
theorem remS_at {rest : List Str} {c : Str} (h : c ∈ rest) : ∃ j, (rest.findIdx? fun m => decide (m = c)) = some j ∧ remS rest c = rest.eraseIdx j ∧ (remS rest c).length + 1 = rest.length := by
  unfold remS
  cases e : rest.findIdx? fun m => decide (m = c) with
  | none =>
    have := List.findIdx?_eq_none_iff.mp e c h
    simp at this
  | some j =>
    obtain ⟨hj, _⟩ := List.findIdx?_eq_some_iff_getElem.mp e
    refine ⟨j, rfl, rfl, ?_⟩
    show (rest.eraseIdx j).length + 1 = _
    rw [List.length_eraseIdx, if_pos hj]
    omega
theorem go_told {cs : List Str} {ls : List Lk} {po pw pr : Addr} {M : MM} {Z Z0 : XD} {Q Q0 : QD} (oks : ∀ k ∈ ls, LkOk cs k) (hcs : cs.length ≤ 100) (hl : ls.length ≤ 1000) (hpo : po ∉ keys M) (hpw : pw ∉ keys M) (hpr : pr ∉ keys M) (hwo : ¬ pw = po) (hrw : ¬ pr = pw) (hro : ¬ pr = po)
    (hz : ∀ C fs M1 M2, M2.Sublist M1 → Z0 C fs M2 → Z C fs M1) (hq : ∀ d M1 M2, M2.Sublist M1 → Q0 d M2 → Q d M1) (h : Q0 (tbD cs ls (startT cs ls)) M) :
    t_told_back_3 { nx := fun _ M' => Q .non M', rt := Q, xc := fun C fs _ M' => Z C fs M' } [some (.lst (cs.map D.str)), some (.lst (ls.map lkD)), some (.ref po), some (.ref pw), some (.lst ((List.range ls.length).map keyN)), some (.ref pr), none, none, none] (mst pr pw po cs [] [] M) := by
  simp only [t_told_back_3, dSeq_eq]
  refine ⟨WhT cs ls po pw pr M, ⟨cs.length, cs, [], [], List.range ls.length, none, none, none, rfl, rfl, fun i hi => List.mem_range.mp hi, by simp, by simp, by simp, rfl, rfl⟩, ?_⟩
  rintro m ds' M' ⟨rest, o, ws, left, x6, x7, x8, rfl, hrun, hleft, hll, hor, hws, rfl, rfl⟩
  have lk1 : ∀ (rest o : List Str) (ws : List (Key × D)), List.lookup pr (mst pr pw po rest o ws M) = some (.lst (rest.map D.str)) := fun rest o ws => by simp [mst]
  have lk2 : ∀ (rest o : List Str) (ws : List (Key × D)), List.lookup pw (mst pr pw po rest o ws M) = some (.dK ws) := fun rest o ws => by
    unfold mst
    rw [look_ne (fun z => hrw z.symm)]
    simp
  have lk3 : ∀ (rest o : List Str) (ws : List (Key × D)), List.lookup po (mst pr pw po rest o ws M) = some (.lst (o.map D.str)) := fun rest o ws => by
    unfold mst
    rw [look_ne (fun z => hro z.symm), look_ne (fun z => hwo z.symm)]
    simp
  have hpwo : pw ∉ keys ((po, MO.lst (o.map D.str)) :: M) := fun z => by
    rcases List.mem_cons.mp z with z | z
    · exact hwo z
    · exact hpw z
  have hprw : ∀ ws : List (Key × D), pr ∉ keys ((pw, MO.dK ws) :: (po, MO.lst (o.map D.str)) :: M) := fun ws z => by
    rcases List.mem_cons.mp z with z | z
    · exact hrw z
    · rcases List.mem_cons.mp z with z | z
      · exact hro z
      · exact hpr z
  have isl : ∀ k ∈ ls, isLk (lkD k) = true := fun k hk => by
    obtain ⟨t, row, w⟩ := k
    cases t <;> rfl
  have isll : (ls.map lkD).all isLk = true := by
    rw [List.all_map, List.all_eq_true]
    exact isl
  have e1 : lstOf (mst pr pw po rest o ws M) (.ref pr) = some (rest.map D.str) := by
    show (match List.lookup pr (mst pr pw po rest o ws M) with | some (.lst xs) => some xs | _ => none) = _
    rw [lk1]
  simp
  rw [e1]
  simp only [optK_some]
  have at0 : ∀ (t : Bool) (row : List Str) (w : Str), lkD ⟨t, row, w⟩ = .tup [sqD t (row.map D.str), .str w] := fun _ _ _ => rfl
  have at1 : ∀ a b : D, L2.atI [a, b] 0 = some a ∧ L2.atI [a, b] 1 = some b := fun _ _ => ⟨rfl, rfl⟩
  have lkk : ∀ i ∈ left, ∃ k, LkOk cs k ∧ L2.atI (ls.map lkD) (i : Int) = some (lkD k) ∧ (∀ c, inAt ls c i = decide (c ∈ k.row)) ∧ wAt ls i = k.w := fun i hi => by
    obtain ⟨k, hk, e⟩ := lk_at (hleft i hi)
    exact ⟨k, oks k hk, e⟩
  by_cases hrest : rest = []
  · subst hrest
    have hr : startT cs ls = .ran o ws := hrun.symm
    rw [hr] at h
    have em : mkO "Ranked" rankMk [.lst (cs.map D.str), .lst (ls.map lkD), .lst (o.map D.str), .dK ws] = some (.ok (rankD (cs.map D.str) (ls.map lkD) (o.map D.str) ws)) := by
      unfold mkO
      rw [show rankMk [.lst (cs.map D.str), .lst (ls.map lkD), .lst (o.map D.str), .dK ws] = if (ls.map lkD).all isLk = true ∧ (ls.map lkD).length ≤ 1000 then some (.ok (rankF (cs.map D.str) (ls.map lkD) (o.map D.str) ws)) else none from rfl, if_pos ⟨isll, by simpa using hl⟩]
      rfl
    have ed : drop (mst pr pw po [] o ws M) po = (pr, .lst []) :: (pw, .dK ws) :: M := by
      unfold mst
      rw [drop_skip hro, drop_skip hwo, drop_cons hpo]
      rfl
    have ed2 : drop ((pr, MO.lst []) :: (pw, .dK ws) :: M) pw = (pr, .lst []) :: M := by
      rw [drop_skip hrw, drop_cons hpw]
    have el : List.lookup pw ((pr, MO.lst []) :: (pw, .dK ws) :: M) = some (.dK ws) := by
      rw [look_ne (fun z => hrw z.symm)]
      simp
    simp
    refine cut_go ?_
    simp [t_told_back_13, lk2, lk3]
    rw [ed, el]
    show optK (some _) _
    rw [optK_some, ed2, em, optK_some]
    exact hq _ _ M (List.sublist_cons_self _ _) h
  · simp [hrest]
    simp [t_told_back_4, lk1, drop_cons (hprw ws), -lcGo_cons]
    refine lc_filtB D.str (freeB ls left) D.str rest [] (fun c hc => ⟨_, rfl, fun Q' q' => ?_, fun _ Q' q' => ?_⟩) (by rw [sizeLine_eq]; simp; omega) ?_
    · simp
      refine sc_keys (inAt ls c) (fun i => .inr (wAt ls i)) left [] (fun i hi => ?_) (by simp; omega) ?_
      · obtain ⟨k, okk, e, ein, ew⟩ := lkk i hi
        refine ⟨_, rfl, fun Q2 q2 => ?_, fun _ Q2 q2 => ?_⟩
        · rw [ein] at q2
          obtain ⟨t, row, w⟩ := k
          cases t <;> (simp [keyN, e, at0, at1, okD_strs, okD_s, in_strs]; exact q2)
        · have q3 := q2 (.str k.w) (by rw [ew]; rfl)
          obtain ⟨t, row, w⟩ := k
          cases t <;> (simp [keyN, e, at0, at1]; exact q3)
      · have e : decide (((((left.filter (inAt ls c)).map fun i => (Sum.inr (wAt ls i) : Key)).foldl kAdd []).length : Int) < 2) = freeB ls left c := by
          unfold freeB
          exact decide_eq_decide.mpr (by omega)
        rw [e]
        exact q'
    · simp
      exact q'
    rw [List.nil_append]
    refine cut_go ?_
    have hrc := runT_cons (ls := ls) (left := left) (o := o) (ws := ws) hrest
    rw [hrun] at hrc
    have hsub : ∀ c ∈ rest.filter (freeB ls left), c ∈ rest := fun c hc => (List.mem_filter.mp hc).1
    generalize rest.filter (freeB ls left) = free at hrc hsub ⊢
    simp [t_told_back_5]
    cases free with
    | nil =>
      have hr : startT cs ls = .jam left := hrc
      rw [hr] at h
      have em : mkO "Jammed" jamMk [.lst (cs.map D.str), .lst (ls.map lkD), .lst (left.map keyN)] = some (.ok (jamD (ls.map lkD) (left.map keyN))) := by
        unfold mkO
        rw [show jamMk [.lst (cs.map D.str), .lst (ls.map lkD), .lst (left.map keyN)] = if (ls.map lkD).all isLk = true ∧ (ls.map lkD).length ≤ 1000 then some (.ok (jamF (ls.map lkD) (left.map keyN))) else none from rfl, if_pos ⟨isll, by simpa using hl⟩]
        rfl
      simp [t_told_back_6, em]
      exact hq _ _ M ((List.sublist_cons_self _ _).trans ((List.sublist_cons_self _ _).trans (List.sublist_cons_self _ _))) h
    | cons c fs =>
      have hr : startT cs ls = runT ls (rest.length - 1) (remS rest c) (left.filter fun i => !inAt ls c i) (o ++ [c]) (putW ls c left ws) := hrc
      have hc : c ∈ rest := hsub c List.mem_cons_self
      simp
      refine cut_go ?_
      simp [t_told_back_7, -forGo_cons]
      have f0 : ∀ ds : List D, L2.atI (D.str c :: ds) 0 = some (.str c) := fun ds => by
        unfold L2.atI ixN
        simp
      refine for_inv (fun rem ds' M' => ∃ (dn rm : List Nat) (x7 x8 : Option D), rem = rm.map keyN ∧ dn ++ rm = left ∧ M' = mst pr pw po rest o (putW ls c dn ws) M ∧ ds' = [some (.lst (cs.map D.str)), some (.lst (ls.map lkD)), some (.ref po), some (.ref pw), some (.lst (left.map keyN)), some (.ref pr), some (.lst (D.str c :: fs.map D.str)), x7, x8]) ?turn ?done _ _ _ ⟨[], left, _, _, rfl, rfl, rfl, rfl⟩
      case turn =>
        rintro x xs ds' M' ⟨dn, rm, x7, x8, e, hd, rfl, rfl⟩
        cases rm with
        | nil => cases e
        | cons i rm =>
          injection e with ea eb
          subst ea
          subst eb
          have hi : i ∈ left := by rw [← hd]; simp
          obtain ⟨k, okk, ek, ein, ew⟩ := lkk i hi
          have nxt : putW ls c (dn ++ [i]) ws = if inAt ls c i = true then putKD (putW ls c dn ws) (.inr c) (.str (wAt ls i)) else putW ls c dn ws := by
            unfold putW
            rw [List.foldl_append]
            rfl
          refine ⟨_, rfl, fun E' h1 h2 h3 h4 h5 => ?_⟩
          have go : ∀ ws', putW ls c (dn ++ [i]) ws = ws' → E'.nx [some (.lst (cs.map D.str)), some (.lst (ls.map lkD)), some (.ref po), some (.ref pw), some (.lst (left.map keyN)), some (.ref pr), some (.lst (D.str c :: fs.map D.str)), x7, some (keyN i)] (mst pr pw po rest o ws' M) := fun ws' e => h4 _ _ ⟨dn ++ [i], rm, _, _, rfl, by rw [← hd]; simp, by rw [e], rfl⟩
          have hin : t_told_back_8 E' [some (.lst (cs.map D.str)), some (.lst (ls.map lkD)), some (.ref po), some (.ref pw), some (.lst (left.map keyN)), some (.ref pr), some (.lst (D.str c :: fs.map D.str)), x7, some (keyN i)] (mst pr pw po rest o (putW ls c dn ws) M) = (if inAt ls c i = true then t_told_back_9 E' [some (.lst (cs.map D.str)), some (.lst (ls.map lkD)), some (.ref po), some (.ref pw), some (.lst (left.map keyN)), some (.ref pr), some (.lst (D.str c :: fs.map D.str)), x7, some (keyN i)] (mst pr pw po rest o (putW ls c dn ws) M) else E'.nx [some (.lst (cs.map D.str)), some (.lst (ls.map lkD)), some (.ref po), some (.ref pw), some (.lst (left.map keyN)), some (.ref pr), some (.lst (D.str c :: fs.map D.str)), x7, some (keyN i)] (mst pr pw po rest o (putW ls c dn ws) M)) := by
            rw [ein]
            obtain ⟨t, row, w⟩ := k
            cases t <;> simp [t_told_back_8, keyN, ek, at0, at1, f0, okD_strs, okD_s, in_strs]
          have wl := putW_len ls c dn ws
          refine Eq.mpr hin ?_
          by_cases hh : inAt ls c i = true
          · rw [if_pos hh] at nxt ⊢
            rw [ew] at nxt
            obtain ⟨t, row, w⟩ := k
            simp [t_told_back_9, keyN, ek, at0, at1, f0, lk2, sizeLine_eq]
            refine ⟨by omega, ?_⟩
            have ep : put (mst pr pw po rest o (putW ls c dn ws) M) pw (.dK (putKD (putW ls c dn ws) (.inr c) (.str w))) = mst pr pw po rest o (putKD (putW ls c dn ws) (.inr c) (.str w)) M := by
              unfold mst
              rw [put_skip hrw, put_cons hpwo]
            rw [ep]
            exact go _ nxt
          · rw [if_neg hh] at nxt ⊢
            exact go _ nxt
      case done =>
        rintro ds' M' ⟨dn, rm, x7, x8, e, hd, rfl, rfl⟩
        cases rm with
        | cons a b => cases e
        | nil =>
          rw [List.append_nil] at hd
          subst hd
          dsimp only
          refine cut_go ?_
          simp [t_told_back_10]
          refine lc_filtB keyN (fun i => !inAt ls c i) keyN dn [] (fun i hi => ⟨_, rfl, fun Q' q' => ?_, fun _ Q' q' => ?_⟩) (by rw [sizeLine_eq]; simp; omega) ?_
          · obtain ⟨k, okk, ek, ein, ew⟩ := lkk i hi
            rw [ein] at q'
            obtain ⟨t, row, w⟩ := k
            cases t <;> (simp [keyN, ek, at0, at1, f0, okD_strs, okD_s, in_strs]; simpa using q')
          · simp
            exact q'
          rw [List.nil_append]
          refine cut_go ?_
          have wl := putW_len ls c dn ws
          have e11 : put (mst pr pw po rest o (putW ls c dn ws) M) po (.lst (o.map D.str ++ [.str c])) = mst pr pw po rest (o ++ [c]) (putW ls c dn ws) M := by
            unfold mst
            rw [put_skip hro, put_skip hwo, put_cons hpo]
            simp
          simp [t_told_back_11, f0, lk3, sizeLine_eq, e11]
          refine ⟨by omega, cut_go ?_⟩
          obtain ⟨j, hj, ej⟩ := remS_at hc
          have e12 : put (mst pr pw po rest (o ++ [c]) (putW ls c dn ws) M) pr (.lst ((rest.eraseIdx j).map D.str)) = mst pr pw po (remS rest c) (o ++ [c]) (putW ls c dn ws) M := by
            unfold mst
            rw [ej.1]
            exact put_cons fun z => by
              rcases List.mem_cons.mp z with z | z
              · exact hrw z
              · rcases List.mem_cons.mp z with z | z
                · exact hro z
                · exact hpr z
          simp [t_told_back_12, f0, lk1, strsD_map, hj, e12]
          have hfl := List.length_filter_le (fun i => !inAt ls c i) dn
          have hlen := ej.2
          refine ⟨(remS rest c).length, by omega, remS rest c, o ++ [c], putW ls c dn ws, dn.filter (fun i => !inAt ls c i), _, _, _, rfl, ?_, fun i hi => hleft i (List.mem_filter.mp hi).1, by omega, by simp; omega, by simp; omega, rfl, rfl⟩
          rw [show (remS rest c).length = rest.length - 1 by omega]
          exact hr.symm
theorem ok_told_back (T : Tx P K mg) {fd : FuncData} (F : FunD K "told_back" "told_back" (defArgs s_told_back) (defBody s_told_back) (defScope s_told_back) [] [] (He.fAd K ("told_back", none)) fd) : FnOk P w K mg base (L2.CX P w) (4) (He.fAd K ("told_back", none)) fd ["cards", "looks"] (spOf K spTold) := by
  refine (fn_trim (fn_d (k := 3) (sp := (tr spTold)) (t := t_told_back_0) F sc_told_back (fun X cdv A outer s H E hX hr hp => by
    subst hX
    exact (s_cons (s_expr (d_call (cal_fn (fs_need_looks T) (hr.mono (by omega))) (kp_need_looks T) (T.glo (T.says.fact 33 rfl)) (ad_cons (d_v 0) (ad_cons (d_v 1) ad_nil))))
    (s_cons (s_asg (d_tup (ad_cons (d_lstM ad_nil) (ad_cons d_newK (ad_cons (d_listRg rfl (T.free (T.says.fact 0 rfl)) (T.free (T.says.fact 22 rfl)) (d_callB k_len (T.free (T.says.fact 1 rfl)) bf_len (ad_cons (d_v 1) ad_nil))) ad_nil)))) (g_tup (is := [2, 3, 4]) rfl (gs_cons (g_one (i := 2) sc_told_back.nd rfl (.inl rfl)) (gs_cons (g_one (i := 3) sc_told_back.nd rfl (.inl rfl)) (gs_cons (g_one (i := 4) sc_told_back.nd rfl (.inr rfl)) gs_nil)))))
    (s_cons (s_set (i := 5) sc_told_back.nd rfl (.inl rfl) (d_callTy k_listM (T.free (T.says.fact 0 rfl)) bt_list (ad_cons (d_v 0) ad_nil)))
    (s_cons (s_while hp (d_tcmp (c_neN (by have := hr.units; omega)) (d_v 5) (d_lst ad_nil) (nomark _))
    (s_cons (s_set (i := 6) sc_told_back.nd rfl (.inr rfl) (d_lcR (own := [("card", 7)]) (g := .one 7) rfl sc_told_back.nd (d_v 5) (blkOk_by (own := [("card", 7)]) (N := N_told_back) (sc := defScope s_told_back) (by decide +kernel))
      (fun _ _ _ _ _ => pg_name (i := 7) sc_told_back.nd rfl (Or.inr rfl)) (fun _ _ _ _ _ => ts_one (d_tcmp c_lt (d_lenSc (own := [("at", 8)]) (g := .one 8) rfl rfl (T.free (T.says.fact 1 rfl)) sc_told_back.nd (i_list (d_v 4)) (blkOk_in (own := [("at", 8)]) (N := N_told_back) (scB := defScope s_told_back) (by decide +kernel))
      (fun _ _ _ _ _ => pg_name (i := 8) sc_told_back.nd rfl (Or.inl rfl)) (fun _ _ _ _ _ => ts_one (d_tcmp (c_in (hu65 hr)) (d_v 7) (d_ix (d_ix (d_v 1) (d_v 8)) d_int) rfl)) (fun _ _ _ _ _ => (d_ix (d_ix (d_v 1) (d_v 8)) d_int))) d_int (nomark _))) (fun _ _ _ _ _ => (d_v 7))))
    (s_cons (s_if (d_tcmp (c_eqN (by have := hr.units; omega)) (d_v 6) (d_lst ad_nil) (nomark _))
    (s_one (s_ret (d_call (cs_Jammed T (hr.mono (by omega))) (He.mkr_ok (T.says.fact 32 rfl)).kp (T.glo (T.says.fact 34 rfl)) (ad_cons (d_v 0) (ad_cons (d_v 1) (ad_cons (d_v 4) ad_nil))))))
    s_nil)
    (s_cons (s_for hp rfl (i_list (d_v 4)) (g_one (i := 8) sc_told_back.nd rfl (.inl rfl))
    (s_one (s_if (d_tcmp (c_in (hu65 hr)) (d_ix (d_v 6) d_int) (d_ix (d_ix (d_v 1) (d_v 8)) d_int) rfl)
    (s_one (s_dputK (hu1 hr) (d_v 3) (d_ix (d_v 6) d_int) (d_ix (d_ix (d_v 1) (d_v 8)) d_int)))
    s_nil)))
    (s_cons (s_set (i := 4) sc_told_back.nd rfl (.inr rfl) (d_lc (own := [("at", 8)]) (g := .one 8) rfl sc_told_back.nd (i_list (d_v 4)) (blkOk_by (own := [("at", 8)]) (N := N_told_back) (sc := defScope s_told_back) (by decide +kernel))
      (fun _ _ _ _ _ => pg_name (i := 8) sc_told_back.nd rfl (Or.inl rfl)) (fun _ _ _ _ _ => ts_one (d_tcmp (c_notin (hu65 hr)) (d_ix (d_v 6) d_int) (d_ix (d_ix (d_v 1) (d_v 8)) d_int) rfl)) (fun _ _ _ _ _ => (d_v 8))))
    (s_cons (s_expr (d_bm PySem.F.plainAttrs_list PySem.F.slot_list_append PySem.F.type_list_append m_append (d_v 2) (ad_cons (d_ix (d_v 6) d_int) ad_nil)))
    (s_one (s_expr (d_bm PySem.F.plainAttrs_list PySem.F.slot_list_remove PySem.F.type_list_remove m_removeS (d_v 5) (ad_cons (d_ix (d_v 6) d_int) ad_nil))))))))))
    (s_one (s_frzS 2 (s_frzS 3 (s_ret (d_call (cs_Ranked T (hr.mono (by omega))) (He.mkr_ok (T.says.fact 31 rfl)).kp (T.glo (T.says.fact 35 rfl)) (ad_cons (d_v 0) (ad_cons (d_v 1) (ad_cons (d_v 2) (ad_cons (d_v 3) ad_nil)))))))))))))) (fun xs M Z Q h => ?_)) )
  obtain ⟨Z0, Q0, ⟨cs, ds, rfl, ha, hcs, hds, h⟩, hz, hq⟩ := h
  refine ⟨rfl, ?_⟩
  simp [N_told_back]
  simp [t_told_back_0, ha, hcs, needLR]
  cases hb : badAt cs 0 ds with
  | some i =>
    unfold toldK at h
    rw [hb] at h
    simp
    exact hz _ _ M M (List.Sublist.refl _) h
  | none =>
    unfold toldK at h
    rw [hb] at h
    obtain ⟨ls, rfl, oks⟩ := looks_ex ha hb
    have h := h ls rfl oks
    have hl : ls.length ≤ 1000 := by simpa using hds
    have n1 : (ls.length : Int) < 4611686018427387904 := by omega
    have n2 : -4611686018427387904 ≤ (ls.length : Int) := by omega
    simp
    refine cut_go ?_
    simp [t_told_back_1, sizeLine_eq, n1, n2]
    intro po hpo0 pw hwo hpw0
    refine ⟨by omega, cut_go ?_⟩
    have hpo : po ∉ keys M := nkl hpo0
    have hpw : pw ∉ keys M := nkl hpw0
    simp [t_told_back_2]
    intro pr hrw hro hpr0
    have hpr : pr ∉ keys M := nkl hpr0
    refine cut_go ?_
    rw [ranged_key]
    exact go_told oks hcs hl hpo hpw hpr hwo hrw hro hz hq h

theorem fs_told_back (T : Tx P K mg) : FnS P w K mg base (4) (He.fAd K ("told_back", none)) [] (fun xs _ M Z Q => spTold xs M Z Q) := by
  obtain ⟨fd, F⟩ := fd_told_back T
  exact fns_all (ok_told_back T F) (F.bindsN fun _ _ _ _ _ _ us hl => match us, hl with | [_, _], _ => rfl)

def spBad_possible : SpD := fun xs M Z Q => ∃ (cs : List Str) (ds : List D) (a b : D) (i : Nat), xs = [.lst (cs.map D.str), .lst ds, a, b] ∧ ds.all argL = true ∧ cs.length ≤ 100 ∧ badAt cs 0 ds = some i ∧ Z "InvalidLook" [("code", .str "InvalidLook"), ("at", .int (i : Nat))] M
theorem at_bad_possible {cs : List Str} {ds : List D} {i : Nat} (ha : ds.all argL = true) (hc : cs.length ≤ 100) (hb : badAt cs 0 ds = some i) (a b : D) (ys : List D) (M : MM) (Z : XD) (Q : QD) (h : Z "InvalidLook" [("code", .str "InvalidLook"), ("at", .int (i : Nat))] M) : ask (fun xs _ M Z Q => spBad_possible xs M Z Q) [.lst (cs.map D.str), .lst ds, a, b] ys M Z Q := ⟨cs, ds, a, b, i, rfl, ha, hc, hb, h⟩

def N_possible : List Str := ["cards", "looks", "card", "word"]
theorem sc_possible : FnScope N_possible ["cards", "looks", "card", "word"] (defScope s_possible) := ⟨rfl, rfl, rfl, by decide +kernel, rfl, by decide +kernel, by decide +kernel⟩
theorem fd_possible (T : Tx P K mg) : ∃ fd, FunD K "possible" "possible" (defArgs s_possible) (defBody s_possible) (defScope s_possible) [] [] (He.fAd K ("possible", none)) fd := T.says.def_ 19 (d := d_possible) rfl
theorem kp_possible (T : Tx P K mg) : PySem.W.keepIn K (.ref (He.fAd K ("possible", none))) = true := (fd_possible T).elim fun _ F => F.kp
def t_possible_3 : TSD := dNever
def t_possible_2 : TSD := dSeq dNever t_possible_3
def t_possible_1 : TSD := dSeq dNever t_possible_2
def t_possible_0 : TSD := dSeq (dDrop (dCallS (fun xs _ M Z Q => spNeedL xs M Z Q) (dCons (dVar 0) (dCons (dVar 1) dNil)) dNil)) t_possible_1
theorem ok_possible (T : Tx P K mg) {fd : FuncData} (F : FunD K "possible" "possible" (defArgs s_possible) (defBody s_possible) (defScope s_possible) [] [] (He.fAd K ("possible", none)) fd) : FnOk P w K mg base (L2.CX P w) (4) (He.fAd K ("possible", none)) fd ["cards", "looks", "card", "word"] (spOf K spBad_possible) := by
  refine (fn_d (k := 3) (sp := spBad_possible) (t := t_possible_0) F sc_possible (fun X cdv A outer s H E hX hr hp => by
    subst hX
    exact (s_cons (s_expr (d_call (cal_fn (fs_need_looks T) (hr.mono (by omega))) (kp_need_looks T) (T.glo (T.says.fact 33 rfl)) (ad_cons (d_v 0) (ad_cons (d_v 1) ad_nil))))
    (s_cons s_never
    (s_cons s_never
    (s_one s_never))))) (fun xs M Z Q h => ?_))
  obtain ⟨cs, ds, a, b, i, rfl, ha, hcs, hb, h⟩ := h
  refine ⟨rfl, ?_⟩
  have ha2 := List.all_eq_true.mp ha
  simp [N_possible, t_possible_0, hcs, needLR, hb]
  exact ⟨ha2, h⟩
theorem fs_possible (T : Tx P K mg) : FnS P w K mg base (4) (He.fAd K ("possible", none)) [] (fun xs _ M Z Q => spBad_possible xs M Z Q) := by
  obtain ⟨fd, F⟩ := fd_possible T
  exact fns_all (ok_possible T F) (F.bindsN fun _ _ _ _ _ _ us hl => match us, hl with | [_, _, _, _], _ => rfl)

def spBad_sure_word : SpD := fun xs M Z Q => ∃ (cs : List Str) (ds : List D) (a : D) (i : Nat), xs = [.lst (cs.map D.str), .lst ds, a] ∧ ds.all argL = true ∧ cs.length ≤ 100 ∧ badAt cs 0 ds = some i ∧ Z "InvalidLook" [("code", .str "InvalidLook"), ("at", .int (i : Nat))] M
theorem at_bad_sure_word {cs : List Str} {ds : List D} {i : Nat} (ha : ds.all argL = true) (hc : cs.length ≤ 100) (hb : badAt cs 0 ds = some i) (a : D) (ys : List D) (M : MM) (Z : XD) (Q : QD) (h : Z "InvalidLook" [("code", .str "InvalidLook"), ("at", .int (i : Nat))] M) : ask (fun xs _ M Z Q => spBad_sure_word xs M Z Q) [.lst (cs.map D.str), .lst ds, a] ys M Z Q := ⟨cs, ds, a, i, rfl, ha, hc, hb, h⟩

def N_sure_word : List Str := ["cards", "looks", "card", "answer", "words", "some", "word", "can"]
theorem sc_sure_word : FnScope N_sure_word ["cards", "looks", "card"] (defScope s_sure_word) := ⟨rfl, rfl, rfl, by decide +kernel, rfl, by decide +kernel, by decide +kernel⟩
theorem fd_sure_word (T : Tx P K mg) : ∃ fd, FunD K "sure_word" "sure_word" (defArgs s_sure_word) (defBody s_sure_word) (defScope s_sure_word) [] [] (He.fAd K ("sure_word", none)) fd := T.says.def_ 20 (d := d_sure_word) rfl
theorem kp_sure_word (T : Tx P K mg) : PySem.W.keepIn K (.ref (He.fAd K ("sure_word", none))) = true := (fd_sure_word T).elim fun _ F => F.kp
def t_sure_word_6 : TSD := dNever
def t_sure_word_5 : TSD := dSeq dNever t_sure_word_6
def t_sure_word_4 : TSD := dSeq dNever t_sure_word_5
def t_sure_word_3 : TSD := dSeq dNever t_sure_word_4
def t_sure_word_2 : TSD := dSeq dNever t_sure_word_3
def t_sure_word_1 : TSD := dSeq dNever t_sure_word_2
def t_sure_word_0 : TSD := dSeq (dDrop (dCallS (fun xs _ M Z Q => spNeedL xs M Z Q) (dCons (dVar 0) (dCons (dVar 1) dNil)) dNil)) t_sure_word_1
theorem ok_sure_word (T : Tx P K mg) {fd : FuncData} (F : FunD K "sure_word" "sure_word" (defArgs s_sure_word) (defBody s_sure_word) (defScope s_sure_word) [] [] (He.fAd K ("sure_word", none)) fd) : FnOk P w K mg base (L2.CX P w) (4) (He.fAd K ("sure_word", none)) fd ["cards", "looks", "card"] (spOf K spBad_sure_word) := by
  refine (fn_d (k := 3) (sp := spBad_sure_word) (t := t_sure_word_0) F sc_sure_word (fun X cdv A outer s H E hX hr hp => by
    subst hX
    exact (s_cons (s_expr (d_call (cal_fn (fs_need_looks T) (hr.mono (by omega))) (kp_need_looks T) (T.glo (T.says.fact 33 rfl)) (ad_cons (d_v 0) (ad_cons (d_v 1) ad_nil))))
    (s_cons s_never
    (s_cons s_never
    (s_cons s_never
    (s_cons s_never
    (s_cons s_never
    (s_one s_never)))))))) (fun xs M Z Q h => ?_))
  obtain ⟨cs, ds, a, i, rfl, ha, hcs, hb, h⟩ := h
  refine ⟨rfl, ?_⟩
  have ha2 := List.all_eq_true.mp ha
  simp [N_sure_word, t_sure_word_0, hcs, needLR, hb]
  exact ⟨ha2, h⟩
theorem fs_sure_word (T : Tx P K mg) : FnS P w K mg base (4) (He.fAd K ("sure_word", none)) [] (fun xs _ M Z Q => spBad_sure_word xs M Z Q) := by
  obtain ⟨fd, F⟩ := fd_sure_word T
  exact fns_all (ok_sure_word T F) (F.bindsN fun _ _ _ _ _ _ us hl => match us, hl with | [_, _, _], _ => rfl)

theorem kfold_const {k0 : Key} : ∀ (xs acc : List Key), (∀ k ∈ xs, k = k0) → (acc = [] ∨ acc = [k0]) → (xs.foldl kAdd acc).length < 2
  | [], acc, _, h => by
    rcases h with rfl | rfl <;> simp
  | k :: xs, acc, hx, h => by
    have e : k = k0 := hx k List.mem_cons_self
    refine kfold_const xs (kAdd acc k) (fun j hj => hx j (List.mem_cons_of_mem _ hj)) (.inr ?_)
    rcases h with rfl | rfl
    · rw [e]
      rfl
    · unfold kAdd
      rw [if_pos (kHas_iff.mpr (by rw [e]; simp))]
theorem free_same {ls : List Lk} {w0 : Str} {left : List Nat} (h : ∀ i ∈ left, wAt ls i = w0) (c : Str) : freeB ls left c = true := by
  refine decide_eq_true (kfold_const (k0 := .inr w0) _ [] (fun k hk => ?_) (.inl rfl))
  obtain ⟨i, hi, rfl⟩ := List.mem_map.mp hk
  rw [h i (List.mem_filter.mp hi).1]
theorem rem_head (r : Str) (rest : List Str) : remS (r :: rest) r = rest := by
  unfold remS
  simp [List.findIdx?_cons]
/-- looks of one word always fit -/
theorem run_same {ls : List Lk} {w0 : Str} : ∀ (rest : List Str) (left : List Nat) (o : List Str) (ws : List (Key × D)), (∀ i ∈ left, wAt ls i = w0) → ∃ o' ws', runT ls rest.length rest left o ws = .ran o' ws'
  | [], _, o, ws, _ => ⟨o, ws, rfl⟩
  | r :: rest, left, o, ws, h => by
    have e : (r :: rest).filter (freeB ls left) = r :: rest := List.filter_eq_self.mpr fun c _ => free_same h c
    rw [runT_cons (by simp), e]
    show ∃ o' ws', runT ls rest.length (remS (r :: rest) r) _ _ _ = _
    rw [rem_head]
    exact run_same rest _ _ _ fun i hi => h i (List.mem_filter.mp hi).1
theorem start_same {cs : List Str} {ls : List Lk} {w0 : Str} (h : ∀ k ∈ ls, k.w = w0) : ∃ o' ws', startT cs ls = .ran o' ws' := by
  refine run_same (w0 := w0) cs _ _ _ fun i hi => ?_
  have hi := List.mem_range.mp hi
  unfold wAt
  simp [hi]
  exact h _ (List.getElem_mem hi)
theorem dup_strs : ∀ {row seen : List Str}, (seen ++ row).Nodup → dupAt (seen.map D.str) (row.map D.str) = false
  | [], _, _ => rfl
  | c :: row, seen, h => by
    show (inD (.str c) (seen.map D.str) || dupAt (seen.map D.str ++ [.str c]) (row.map D.str)) = false
    rw [in_strs]
    have h2 := h
    rw [List.nodup_append] at h2
    rw [decide_eq_false (fun z => h2.2.2 c z c List.mem_cons_self rfl), Bool.false_or]
    have := dup_strs (row := row) (seen := seen ++ [c]) (by simpa using h)
    rw [List.map_append] at this
    exact this
theorem look_good {cs : List Str} {k : Lk} (hw : wordS k.w = true) (hne : k.row ≠ []) (hs : ∀ c ∈ k.row, c ∈ cs) (hn : k.row.Nodup) : lookB cs (lkD k) = true := by
  obtain ⟨t, row, w⟩ := k
  have hr : rowB cs (row.map D.str) = true := by
    unfold rowB
    rw [show dupAt [] (row.map D.str) = false from dup_strs (seen := []) (by simpa using hn)]
    have h1 : (row.map D.str).isEmpty = false := by
      cases row with
      | nil => exact absurd rfl hne
      | cons a b => rfl
    have h2 : ((row.map D.str).all fun x => inD x (cs.map D.str)) = true := by
      rw [List.all_map, List.all_eq_true]
      intro c hc
      show inD (.str c) (cs.map D.str) = true
      rw [in_strs]
      exact decide_eq_true (hs c hc)
    rw [h1, h2]
    rfl
  have hw2 : wordD (.str w) = true := hw
  cases t
  · show (wordD (.str w) && rowB cs (row.map D.str)) = true
    rw [hw2, hr]
    rfl
  · show (wordD (.str w) && rowB cs (row.map D.str)) = true
    rw [hw2, hr]
    rfl
theorem look_arg {k : Lk} (hw : wordS k.w = true) (hl : k.row.length ≤ 100) : argL (lkD k) = true := by
  obtain ⟨t, row, w⟩ := k
  have hw1 : w.length ≤ 40 := (word_len hw).2
  have hw2 : fitB (.str w) = true := decide_eq_true (by omega)
  have hr : argR (row.map D.str) = true := by
    unfold argR
    rw [Bool.and_eq_true, List.all_map, List.all_eq_true]
    exact ⟨decide_eq_true (by simpa using hl), fun _ _ => rfl⟩
  cases t
  · show (fitB (.str w) && argR (row.map D.str)) = true
    rw [hw2, hr]
    rfl
  · show (fitB (.str w) && argR (row.map D.str)) = true
    rw [hw2, hr]
    rfl
theorem bad_mid {cs : List Str} {w : D} {B : List D} (hw : lookB cs w = false) : ∀ {A : List D} {k : Nat}, (∀ d ∈ A, lookB cs d = true) → badAt cs k (A ++ w :: B) = some (k + A.length)
  | [], k, _ => by
    show (if lookB cs w = true then _ else some k) = _
    rw [if_neg (by rw [hw]; simp)]
    rfl
  | a :: A, k, h => by
    show (if lookB cs a = true then badAt cs (k + 1) (A ++ w :: B) else _) = _
    rw [if_pos (h a List.mem_cons_self), bad_mid hw fun d hd => h d (List.mem_cons_of_mem _ hd)]
    simp
    omega
theorem bad_none {cs : List Str} : ∀ {A : List D} {k : Nat}, (∀ d ∈ A, lookB cs d = true) → badAt cs k A = none
  | [], _, _ => rfl
  | a :: A, k, h => by
    show (if lookB cs a = true then badAt cs (k + 1) A else _) = _
    rw [if_pos (h a List.mem_cons_self)]
    exact bad_none fun d hd => h d (List.mem_cons_of_mem _ hd)
theorem lkD_inj {a b : Lk} (h : lkD a = lkD b) : a = b := by
  obtain ⟨t, r, w⟩ := a
  obtain ⟨t', r', w'⟩ := b
  unfold lkD at h
  simp at h
  obtain ⟨h1, rfl⟩ := h
  cases t <;> cases t' <;> simp at h1
  · cases map_str_inj h1
    rfl
  · cases map_str_inj h1
    rfl
theorem map_lkD_inj : ∀ {xs ys : List Lk}, xs.map lkD = ys.map lkD → xs = ys
  | [], [], _ => rfl
  | [], _ :: _, h => by cases h
  | _ :: _, [], h => by cases h
  | x :: xs, y :: ys, h => by
    rw [List.map_cons, List.map_cons] at h
    injection h with h1 h2
    rw [lkD_inj h1, map_lkD_inj h2]


end
end L2.Dl
namespace L2.Dl
open PySem PySem.Spec PyProof.Rows
section
variable {P : Program} {w : World} {K : PySem.W.Frag} {mg : Str → Option Value} {base : Heap}
def tabR : Res → Bool
  | .ok _ => true
  | .error (C, [(c, .str C'), (f, _)]) => decide (c = ("code" : Str)) && decide (C' = C) && decide ((C, some f) ∈ eTab)
  | .error (C, [(c, .str C')]) => decide (c = ("code" : Str)) && decide (C' = C) && decide ((C, none) ∈ eTab)
  | _ => false
theorem tab_er {C f : Str} {v : D} (h : (C, some f) ∈ eTab) : tabR (.error (er C f v)) = true := by
  unfold er tabR
  simp [h]
theorem outK_ask {r : Res} {M : MM} {Q : QD} (h : tabR r = true) (q : Q (askD r) M) : outK r M (zAsk Q) (fun d M' => Q (.tup [.str "", d]) M') := by
  unfold tabR at h
  split at h
  · exact q
  · rename_i C c C' f v
    simp only [Bool.and_eq_true, decide_eq_true_eq] at h
    obtain ⟨⟨rfl, rfl⟩, h⟩ := h
    exact ⟨(_, some f), h, v, rfl, rfl, q⟩
  · rename_i C c C'
    simp only [Bool.and_eq_true, decide_eq_true_eq] at h
    obtain ⟨⟨rfl, rfl⟩, h⟩ := h
    exact ⟨(_, none), h, .non, rfl, rfl, q⟩
  · cases h
/-- actions and what they give -/
inductive Asks2 (mean : Mean) (M : MM) : List (Unit → Obj) → List Res → Prop
  | nil : Asks2 mean M [] []
  | cons {o : Unit → Obj} {r : Res} {os : List (Unit → Obj)} {rs : List Res} : ((∀ Z Q, outK r M Z Q → mean o M Z Q) ∧ tabR r = true) → Asks2 mean M os rs → Asks2 mean M (o :: os) (r :: rs)
theorem asks_go' {mean : Mean} {M : MM} {Q : QD} : ∀ {os : List (Unit → Obj)} {rs : List Res} {acc : List D}, Asks2 mean M os rs → Q (.lst (acc ++ rs.map askD)) M → asksGo mean os acc M Q
  | _, _, acc, .nil, q => by
    rw [List.map_nil, List.append_nil] at q
    exact q
  | _, _, acc, @Asks2.cons _ _ o r os rs h t, q => h.1 _ _ (outK_ask (Q := fun d M' => asksGo mean os (acc ++ [d]) M' Q) h.2 (asks_go' t (by
      rw [List.append_assoc]
      exact q)))
theorem asks_go {mean : Mean} {M : MM} {Q : QD} {os : List (Unit → Obj)} (rs : List Res) (h : Asks2 mean M os rs) (q : Q (.lst (rs.map askD)) M) : asksGo mean os [] M Q := asks_go' h (by rw [List.nil_append]; exact q)
theorem ask_go {vs0 : List V} {ds0 : List D} {mean : Mean} {M : MM} {Q : QD} {Z : XD} {o : Unit → Obj} (r : Res) (h : ∀ Z Q, outK r M Z Q → mean o M Z Q) (ht : tabR r = true) (q : Q (askD r) M) : spAsk vs0 ds0 mean [.act o vs0 ds0] M Z Q := ⟨o, rfl, h _ _ (outK_ask ht q)⟩


end
end L2.Dl
namespace L2.Dl
open PySem PySem.Spec PyProof.Rows
section
variable {P : Program} {w : World} {K : PySem.W.Frag} {mg : Str → Option Value} {base : Heap}
def N_law : List Str := ["_law_script", "_law_bag_here", "_law_turn", "_law_cards", "_law_far", "_law_looks", "_law_k", "_law_at", "_law_wrong", "_law_bent", "_law_asks_here", "_law_some", "_law_word"]
theorem sc_law : FnScope N_law ["_law_script"] (defScope s_law) := ⟨rfl, rfl, rfl, by decide +kernel, rfl, by decide +kernel, by decide +kernel⟩
theorem fd_law (T : Tx P K mg) : ∃ fd, FunD K "law" "law" (defArgs s_law) (defBody s_law) (defScope s_law) [] [] (He.fAd K ("law", none)) fd := T.says.def_ 21 (d := d_law) rfl
theorem kp_law (T : Tx P K mg) : PySem.W.keepIn K (.ref (He.fAd K ("law", none))) = true := (fd_law T).elim fun _ F => F.kp
def lam_0 : Expr := (eE (sE (gS (sB (gS (defBody s_law) 1)) 6)) 3)
def tl_0 (tb : Nat → Addr) : TD := (dCB (dBoolO "Ranked" (fun xs _ M Z Q => spRB xs M Z Q)) (dCons (dCallS (fun xs _ M Z Q => spTold xs M Z Q) (dCons (dVar 3) (dCons (dLc (iL (dVar 5)) (.tup [11, 12]) dYes (dTup (dCons (dCB dTupC (dCons (dVar 11) dNil)) (dCons (dVar 12) dNil))) [11, 12]) dNil)) dNil) dNil))
theorem ls_0 : LamS N_law (defScope s_law) (lS lam_0) := lamS_by (by decide +kernel)
def lam_1 : Expr := (eE (sE (gS (sB (gS (defBody s_law) 1)) 6)) 2)
def tl_1 (tb : Nat → Addr) : TD := (dCallS (fun xs _ M Z Q => spBad_possible xs M Z Q) (dCons (dVar 3) (dCons (dVar 9) (dCons (dC .non) (dCons (dC .non) dNil)))) dNil)
theorem ls_1 : LamS N_law (defScope s_law) (lS lam_1) := lamS_by (by decide +kernel)
def lam_2 : Expr := (eE (sE (gS (sB (gS (defBody s_law) 1)) 6)) 1)
def tl_2 (tb : Nat → Addr) : TD := (dCallS (fun xs _ M Z Q => spBad_sure_word xs M Z Q) (dCons (dVar 3) (dCons (dVar 9) (dCons (dC .non) dNil))) dNil)
theorem ls_2 : LamS N_law (defScope s_law) (lS lam_2) := lamS_by (by decide +kernel)
def lam_3 : Expr := (eE (sE (gS (sB (gS (defBody s_law) 1)) 6)) 0)
def tl_3 (tb : Nat → Addr) : TD := (dCallS (fun xs _ M Z Q => spTold xs M Z Q) (dCons (dVar 3) (dCons (dVar 9) dNil)) dNil)
theorem ls_3 : LamS N_law (defScope s_law) (lS lam_3) := lamS_by (by decide +kernel)
def tsL (tb : Nat → Addr) (n : Nat) : TD := match n with
  | 0 => tl_0 tb
  | 1 => tl_1 tb
  | 2 => tl_2 tb
  | 3 => tl_3 tb
  | _ => fun _ _ _ _ => False
def rX (X : Cx) (n : Nat) (o : Unit → Obj) : Prop := match n with
  | 0 => lamR X (lP lam_0) (lB lam_0) (lS lam_0) o
  | 1 => lamR X (lP lam_1) (lB lam_1) (lS lam_1) o
  | 2 => lamR X (lP lam_2) (lB lam_2) (lS lam_2) o
  | 3 => lamR X (lP lam_3) (lB lam_3) (lS lam_3) o
  | _ => False
def lxX (PT : Addr) (X : Cx) : Lmx := ⟨PT, "law.<locals>.<lambda>", rX X⟩
def t_law_10 (Lx : Lmx) (tb : Nat → Addr) : TSD := (dRet (dC (.bl false)))
def t_law_9 (Lx : Lmx) (tb : Nat → Addr) : TSD := (dIfS (dNot (dTest (dCallS (fun xs _ M Z Q => likeSp 3 xs M Z Q) (dCons (dCallM spAsks Lx.R (tsL tb) (dCons (dVar 10) dNil)) (dCons (dOp dAdd (dOp dRep (dLst (dCons (dTup (dCons (dC (.str "InvalidLook")) (dCons (dVar 7) dNil))) dNil)) (dC (.int 3))) (dLst (dCons (dTup (dCons (dC (.str "")) (dCons (dC (.bl true)) dNil))) dNil))) dNil)) dNil))) (t_law_10 Lx tb) dNext)
def t_law_8 (Lx : Lmx) (tb : Nat → Addr) : TSD := dSeq (dSet (dLst (dCons (dLam Lx 3) (dCons (dLam Lx 2) (dCons (dLam Lx 1) (dCons (dLam Lx 0) dNil))))) 10) (t_law_9 Lx tb)
def t_law_7 (Lx : Lmx) (tb : Nat → Addr) : TSD := dSeq (dSet (dOp dAdd (dOp dAdd (dOp dAdd (dSl (dVar 5) dNoPart (dPart (dVar 7))) (dLst (dCons (dVar 8) dNil))) (dSl (dVar 5) (dPart (dVar 7)) dNoPart)) (dLst (dCons (dC .non) dNil))) 9) (t_law_8 Lx tb)
def t_law_6 (Lx : Lmx) (tb : Nat → Addr) : TSD := dSeq (dSet (dCallS (fun xs _ M Z Q => spOfD xs M Z Q) (dCons (dVar 1) (dCons (dLst (dCons (dC .non) (dCons (dC (.int 3)) (dCons (dC (.str "ab")) (dCons (dLst (dCons (dSl (dVar 3) dNoPart (dPart (dC (.int 1)))) (dCons (dC (.str "x")) dNil))) (dCons (dTup (dCons (dSl (dVar 3) dNoPart (dPart (dC (.int 1)))) dNil)) (dCons (dTup (dCons (dSl (dVar 3) dNoPart (dPart (dC (.int 1)))) (dCons (dC (.str "x")) (dCons (dC (.str "x")) dNil)))) (dCons (dTup (dCons (dLst dNil) (dCons (dC (.str "x")) dNil))) (dCons (dTup (dCons (dLst (dCons (dVar 4) dNil)) (dCons (dC (.str "x")) dNil))) (dCons (dTup (dCons (dOp dAdd (dSl (dVar 3) dNoPart (dPart (dC (.int 2)))) (dSl (dVar 3) dNoPart (dPart (dC (.int 1))))) (dCons (dC (.str "x")) dNil))) (dCons (dTup (dCons (dSl (dVar 3) dNoPart (dPart (dC (.int 1)))) (dCons (dC .non) dNil))) (dCons (dTup (dCons (dSl (dVar 3) dNoPart (dPart (dC (.int 1)))) (dCons (dC (.str "A")) dNil))) (dCons (dTup (dCons (dOp dIx (dVar 3) (dC (.int 0))) (dCons (dC (.str "x")) dNil))) (dCons (dTup (dCons (dC .non) (dCons (dC (.str "x")) dNil))) (dCons (dTup (dCons (dLst (dCons (dC .non) dNil)) (dCons (dC (.str "x")) dNil))) dNil))))))))))))))) dNil)) dNil) 8) (t_law_7 Lx tb)
def t_law_5 (Lx : Lmx) (tb : Nat → Addr) : TSD := dSeq (dSet (dCallS (fun xs _ M Z Q => spPick xs M Z Q) (dCons (dVar 1) (dCons (dOp dAdd (dCB dLen (dCons (dVar 5) dNil)) (dC (.int 1))) dNil)) dNil) 7) (t_law_6 Lx tb)
def t_law_4 (Lx : Lmx) (tb : Nat → Addr) : TSD := dSeq (dSet (dLc (iR1 (dCallS (fun xs _ M Z Q => spPick xs M Z Q) (dCons (dVar 1) (dCons (dC (.int 5)) dNil)) dNil)) (.one 6) dYes (dTup (dCons (dSl (dCallS (fun xs _ M Z Q => spMixed xs M Z Q) (dCons (dVar 1) (dCons (dVar 3) dNil)) dNil) dNoPart (dPart (dOp dAdd (dC (.int 1)) (dCallS (fun xs _ M Z Q => spPick xs M Z Q) (dCons (dVar 1) (dCons (dC (.int 4)) dNil)) dNil)))) (dCons (dC (.str "x")) dNil))) [6]) 5) (t_law_5 Lx tb)
def t_law_3 (Lx : Lmx) (tb : Nat → Addr) : TSD := dSeq (dAsg (dTup (dCons (dOp dIx (dVar 3) (dC (.int 4))) (dCons (dSl (dVar 3) dNoPart (dPart (dC (.int 4)))) dNil))) (.tup [4, 3])) (t_law_4 Lx tb)
def t_law_2 (Lx : Lmx) (tb : Nat → Addr) : TSD := dSeq (dSet (dCallS (fun xs _ M Z Q => spNames xs M Z Q) (dCons (dVar 1) (dCons (dC (.int 5)) dNil)) dNil) 3) (t_law_3 Lx tb)
def t_law_11 (Lx : Lmx) (tb : Nat → Addr) : TSD := (dRet (dC (.bl true)))
def t_law_1 (Lx : Lmx) (tb : Nat → Addr) : TSD := dSeq (dFor (iR1 (dC (.int 6))) (.one 2) (t_law_2 Lx tb)) (t_law_11 Lx tb)
def t_law_0 (Lx : Lmx) (tb : Nat → Addr) : TSD := dSeq (dSet (dCallS (fun xs _ M Z Q => spBag xs M Z Q) (dCons (dVar 0) dNil) dNil) 1) (t_law_1 Lx tb)

end
end L2.Dl
namespace L2.Dl
open PySem PySem.Spec PyProof.Rows
section
variable {P : Program} {w : World} {K : PySem.W.Frag} {mg : Str → Option Value} {base : Heap}
theorem ld_0 (T : Tx P K mg) (B : Bx K mg base) {A : Around} {outer : List Env} {s : Shared} {H : Hp} {E : XK} {cc : Addr} (PT : Addr) : LamD (cxOf (L2.CX P w) P w K mg base N_law "law" (defScope s_law) (He.fAd K ("law", none)) (.ref cc) A outer s H E) 9 ((lxX PT (cxOf (L2.CX P w) P w K mg base N_law "law" (defScope s_law) (He.fAd K ("law", none)) (.ref cc) A outer s H E)).R 0) (tl_0 (tbK K)) := ⟨lP lam_0, lB lam_0, lS lam_0, ls_0, (.inr ⟨rfl, "_law_c", rfl, fun _ _ _ _ _ _ _ => ⟨_, rfl, fun _ => rfl⟩⟩), fun o h => h, fun A outer s H E f c' hr => (d_callTy (k_boolO (He.meth_ok (T.says.fact 40 rfl)) (fs_Ranked___bool__ T) (hr.mono (by omega))) (T.free (T.says.fact 10 rfl)) bt_bool (ad_cons (d_call (cal_fn (fs_told_back T) (hr.mono (by omega))) (kp_told_back T) (T.glo (T.says.fact 39 rfl)) (ad_cons (d_v 3) (ad_cons (d_lc (own := [("_law_some", 11), ("_law_word", 12)]) (g := .tup [11, 12]) rfl sc_law.nd (i_list (d_v 5)) (blkOk_by (own := [("_law_some", 11), ("_law_word", 12)]) (N := N_law) (sc := lS lam_0) (by decide +kernel))
      (fun _ _ _ _ _ => pg_tup rfl (pgs_cons (pg_name (i := 11) sc_law.nd rfl (Or.inl rfl)) (pgs_cons (pg_name (i := 12) sc_law.nd rfl (Or.inl rfl)) pgs_nil))) (fun _ _ _ _ _ => ts_nil) (fun _ _ _ _ _ => (d_tup (ad_cons (d_callTy k_tuple (T.free (T.says.fact 5 rfl)) bt_tuple (ad_cons (d_v 11) ad_nil)) (ad_cons (d_v 12) ad_nil))))) ad_nil))) ad_nil))⟩
theorem ld_1 (T : Tx P K mg) (B : Bx K mg base) {A : Around} {outer : List Env} {s : Shared} {H : Hp} {E : XK} {cc : Addr} (PT : Addr) : LamD (cxOf (L2.CX P w) P w K mg base N_law "law" (defScope s_law) (He.fAd K ("law", none)) (.ref cc) A outer s H E) 9 ((lxX PT (cxOf (L2.CX P w) P w K mg base N_law "law" (defScope s_law) (He.fAd K ("law", none)) (.ref cc) A outer s H E)).R 1) (tl_1 (tbK K)) := ⟨lP lam_1, lB lam_1, lS lam_1, ls_1, (.inr ⟨rfl, "_law_b", rfl, fun _ _ _ _ _ _ _ => ⟨_, rfl, fun _ => rfl⟩⟩), fun o h => h, fun A outer s H E f c' hr => (d_call (cal_fn (fs_possible T) (hr.mono (by omega))) (kp_possible T) (T.glo (T.says.fact 41 rfl)) (ad_cons (d_v 3) (ad_cons (d_v 9) (ad_cons d_non (ad_cons d_non ad_nil)))))⟩
theorem ld_2 (T : Tx P K mg) (B : Bx K mg base) {A : Around} {outer : List Env} {s : Shared} {H : Hp} {E : XK} {cc : Addr} (PT : Addr) : LamD (cxOf (L2.CX P w) P w K mg base N_law "law" (defScope s_law) (He.fAd K ("law", none)) (.ref cc) A outer s H E) 9 ((lxX PT (cxOf (L2.CX P w) P w K mg base N_law "law" (defScope s_law) (He.fAd K ("law", none)) (.ref cc) A outer s H E)).R 2) (tl_2 (tbK K)) := ⟨lP lam_2, lB lam_2, lS lam_2, ls_2, (.inr ⟨rfl, "_law_a", rfl, fun _ _ _ _ _ _ _ => ⟨_, rfl, fun _ => rfl⟩⟩), fun o h => h, fun A outer s H E f c' hr => (d_call (cal_fn (fs_sure_word T) (hr.mono (by omega))) (kp_sure_word T) (T.glo (T.says.fact 42 rfl)) (ad_cons (d_v 3) (ad_cons (d_v 9) (ad_cons d_non ad_nil))))⟩
theorem ld_3 (T : Tx P K mg) (B : Bx K mg base) {A : Around} {outer : List Env} {s : Shared} {H : Hp} {E : XK} {cc : Addr} (PT : Addr) : LamD (cxOf (L2.CX P w) P w K mg base N_law "law" (defScope s_law) (He.fAd K ("law", none)) (.ref cc) A outer s H E) 9 ((lxX PT (cxOf (L2.CX P w) P w K mg base N_law "law" (defScope s_law) (He.fAd K ("law", none)) (.ref cc) A outer s H E)).R 3) (tl_3 (tbK K)) := ⟨lP lam_3, lB lam_3, lS lam_3, ls_3, (.inl ⟨rfl, fun _ _ _ _ _ _ => rfl⟩), fun o h => h, fun A outer s H E f c' hr => (d_call (cal_fn (fs_told_back T) (hr.mono (by omega))) (kp_told_back T) (T.glo (T.says.fact 39 rfl)) (ad_cons (d_v 3) (ad_cons (d_v 9) ad_nil)))⟩
theorem ld_law (T : Tx P K mg) (B : Bx K mg base) {A : Around} {outer : List Env} {s : Shared} {H : Hp} {E : XK} {cc : Addr} (PT : Addr) : ∀ n o, (lxX PT (cxOf (L2.CX P w) P w K mg base N_law "law" (defScope s_law) (He.fAd K ("law", none)) (.ref cc) A outer s H E)).R n o → LamD (cxOf (L2.CX P w) P w K mg base N_law "law" (defScope s_law) (He.fAd K ("law", none)) (.ref cc) A outer s H E) 9 ((lxX PT (cxOf (L2.CX P w) P w K mg base N_law "law" (defScope s_law) (He.fAd K ("law", none)) (.ref cc) A outer s H E)).R n) (tsL (tbK K) n)
  | 0, _, _ => ld_0 T B PT
  | 1, _, _ => ld_1 T B PT
  | 2, _, _ => ld_2 T B PT
  | 3, _, _ => ld_3 T B PT
  | _ + 4, _, h => False.elim h

end
end L2.Dl
namespace L2.Dl
open PySem PySem.Spec PyProof.Rows
section
variable {P : Program} {w : World} {K : PySem.W.Frag} {mg : Str → Option Value} {base : Heap}
def Wi (Lx : Lmx) (g : Addr) (ns : List Int) (ds : SD) (M : MM) : Prop := M.lookup g = some .bag ∧ M.lookup Lx.P = some (.tab Lx.q) ∧ ∃ x2 x3 x4 x5 x6 x7 x8 x9 x10 x11 x12, ds = [some (.scr ns), some (.ref g), x2, x3, x4, x5, x6, x7, x8, x9, x10, x11, x12]
structure Cds (cs : List Str) (far : Str) : Prop where
  len : cs.length = 4
  nd : cs.Nodup
  nf : far ∉ cs
  ok : ∀ c ∈ cs, nameS c = true
  okf : nameS far = true
/-- a drawn look: of lists, the word x -/
structure LkX (cs : List Str) (k : Lk) : Prop where
  t : k.t = false
  w : k.w = "x"
  ne : k.row ≠ []
  nd : k.row.Nodup
  sub : ∀ c ∈ k.row, c ∈ cs
theorem looks_of {cs : List Str} : ∀ {ys : List D}, (∀ y ∈ ys, ∃ k, y = lkD k ∧ LkX cs k) → ∃ ls : List Lk, ys = ls.map lkD ∧ ∀ k ∈ ls, LkX cs k
  | [], _ => ⟨[], rfl, fun k hk => nomatch hk⟩
  | y :: ys, h => by
    obtain ⟨k, rfl, hk⟩ := h y List.mem_cons_self
    obtain ⟨ls, rfl, hl⟩ := looks_of (ys := ys) fun z hz => h z (List.mem_cons_of_mem _ hz)
    refine ⟨k :: ls, rfl, fun j hj => ?_⟩
    rcases List.mem_cons.mp hj with rfl | hj
    · exact hk
    · exact hl j hj
theorem wx : wordS "x" = true := by decide +kernel
theorem LkX.good {cs : List Str} {k : Lk} (h : LkX cs k) (t : Bool) : lookB cs (lkD ⟨t, k.row, k.w⟩) = true := look_good (k := ⟨t, k.row, k.w⟩) (by rw [h.w]; exact wx) h.ne h.sub h.nd
theorem LkX.le {cs : List Str} {k : Lk} (h : LkX cs k) (hc : cs.length = 4) : k.row.length ≤ 4 := by
  have := nodup_len h.nd h.sub
  omega
theorem LkX.arg {cs : List Str} {k : Lk} (h : LkX cs k) (hc : cs.length = 4) (t : Bool) : argL (lkD ⟨t, k.row, k.w⟩) = true := look_arg (k := ⟨t, k.row, k.w⟩) (by rw [h.w]; exact wx) (by have := h.le hc; show k.row.length ≤ 100; omega)
theorem LkX.eta {cs : List Str} {k : Lk} (h : LkX cs k) : k = ⟨false, k.row, k.w⟩ := by
  obtain ⟨t, r, w⟩ := k
  cases h.t
  rfl
theorem cutD_fr {α : Type} (xs : List α) (k : Nat) : cutD xs (some (k : Int)) none = xs.drop k := by
  unfold cutD
  simp only [HT.sIx_none, HT.sIx_nat]
  rw [List.take_of_length_le (by simp)]
  by_cases h : k ≤ xs.length
  · rw [Nat.min_eq_left h]
  · rw [Nat.min_eq_right (by omega), List.drop_of_length_le (Nat.le_refl _), List.drop_of_length_le (by omega)]
def ArgV (t : TAD) (ds : SD) (M : MM) (Z : XD) (vs : List D) : Prop := ∀ Q : List D → MM → Prop, Q vs M → t ds M Z Q
theorem argV_nil {ds : SD} {M : MM} {Z : XD} : ArgV dNil ds M Z [] := fun _ q => q
theorem argV_cons {t : TD} {r : TAD} {ds : SD} {M : MM} {Z : XD} {v : D} {vs : List D} (h : ∀ Q' : QD, Q' v M → t ds M Z Q') (q : ArgV r ds M Z vs) : ArgV (dCons t r) ds M Z (v :: vs) := fun Q p => h _ (q _ p)
theorem argV_go {t : TAD} {ds : SD} {M : MM} {Z : XD} {vs : List D} {Q : List D → MM → Prop} (h : ArgV t ds M Z vs) (q : Q vs M) : t ds M Z Q := h Q q
theorem of_list {tl : TD} {ds : SD} {M : MM} {Z : XD} {Q : QD} {i : Nat} {g : Addr} {xs : List D} (hv : ∀ Q' : QD, Q' (.lst xs) M → tl ds M Z Q') (hg : M.lookup g = some .bag) (hs : ds[i]? = some (some (.ref g))) (hn : 0 < xs.length) (hl : xs.length ≤ 1000) (h : ∀ y ∈ xs, Q y M) : dCallS (fun xs _ M Z Q => spOfD xs M Z Q) (dCons (dVar i) (dCons tl dNil)) dNil ds M Z Q := by
  show slotK ds[i]? _
  rw [hs]
  exact hv _ ⟨g, _, _, rfl, hg, rfl, hn, hl, h⟩
def oddL (c0 c1 far : Str) : List D := [.non, .int 3, .str "ab", .lst [.lst [.str c0], .str "x"], .tup [.lst [.str c0]], .tup [.lst [.str c0], .str "x", .str "x"], .tup [.lst [], .str "x"], .tup [.lst [.str far], .str "x"], .tup [.lst [.str c0, .str c1, .str c0], .str "x"], .tup [.lst [.str c0], .non], .tup [.lst [.str c0], .str "A"], .tup [.str c0, .str "x"], .tup [.non, .str "x"], .tup [.lst [.non], .str "x"]]
/-- a wrong look -/
structure Wrg (cs : List Str) (d : D) : Prop where
  ar : argL d = true
  no : lookB cs d = false
theorem odd_wrg {c0 c1 c2 c3 far : Str} (C : Cds [c0, c1, c2, c3] far) : ∀ w ∈ oddL c0 c1 far, Wrg [c0, c1, c2, c3] w := by
  intro w hw
  unfold oddL at hw
  have fx : fitB (.str "x") = true := by decide +kernel
  have fa : fitB (.str "A") = true := by decide +kernel
  have wA : wordS "A" = false := by decide +kernel
  have hnf := C.nf
  have inF : inD (.str far) ([c0, c1, c2, c3].map D.str) = false := by rw [in_strs]; exact decide_eq_false hnf
  have inN : inD .non ([c0, c1, c2, c3].map D.str) = false := by rfl
  simp only [List.mem_cons, List.not_mem_nil, or_false] at hw
  rcases hw with rfl | rfl | rfl | rfl | rfl | rfl | rfl | rfl | rfl | rfl | rfl | rfl | rfl | rfl
  all_goals first | exact ⟨rfl, rfl⟩ | skip
  · refine ⟨rfl, ?_⟩
    show (wordD (.str "x") && (true && (inD (.str far) ([c0, c1, c2, c3].map D.str) && true) && !dupAt [] [.str far])) = false
    rw [inF]
    simp
  · refine ⟨rfl, ?_⟩
    have e : dupAt [] [.str c0, .str c1, .str c0] = true := by
      show (inD (.str c0) [] || (inD (.str c1) [.str c0] || (inD (.str c0) [.str c0, .str c1] || false))) = true
      have : inD (.str c0) [.str c0, .str c1] = true := by
        have := in_strs c0 [c0, c1]
        rw [decide_eq_true (by simp)] at this
        exact this
      rw [this]
      simp
    show (wordD (.str "x") && rowB [c0, c1, c2, c3] [.str c0, .str c1, .str c0]) = false
    unfold rowB
    rw [e]
    simp

end
end L2.Dl
namespace L2.Dl
open PySem PySem.Spec PyProof.Rows
section
variable {P : Program} {w : World} {K : PySem.W.Frag} {mg : Str → Option Value} {base : Heap}
theorem law_b {tb : Nat → Addr} {Lx : Lmx} {E' : EndsD} {g : Addr} {ns : List Int} {M : MM} {x2 x6 x9 x10 x11 x12 : Option D} {cs : List Str} {far : Str} {ls : List Lk} {w : D} {i : Nat} (h4 : ∀ ds M, Wi Lx g ns ds M → E'.nx ds M) (C : Cds cs far) (hl : ls.length ≤ 4) (hk : ∀ k ∈ ls, LkX cs k) (hi : i ≤ ls.length) (hw : Wrg cs w) (hg : M.lookup g = some .bag) (hP : M.lookup Lx.P = some (.tab Lx.q)) :
    t_law_7 Lx tb E' [some (.scr ns), some (.ref g), x2, some (.lst (cs.map D.str)), some (.str far), some (.lst (ls.map lkD)), x6, some (.int (i : Nat)), some (w), x9, x10, x11, x12] M := by
  have hlen := C.len
  have e1 : (cutD (ls.map lkD) none (some (i : Int))) = (ls.map lkD).take i := cutD_to _ _
  have e2 : (cutD (ls.map lkD) (some (i : Int)) none) = (ls.map lkD).drop i := cutD_fr _ _
  have l1 : ((ls.map lkD).take i).length = i := by simp; omega
  have l2 : ((ls.map lkD).drop i).length ≤ 4 := by simp; omega
  have hall : ∀ d ∈ ls.map lkD, argL d = true ∧ lookB cs d = true := fun d hd => by
    obtain ⟨k, hk2, rfl⟩ := List.mem_map.mp hd
    have X := hk k hk2
    rw [X.eta]
    exact ⟨X.arg hlen false, X.good false⟩
  have ha : ((ls.map lkD).take i ++ w :: ((ls.map lkD).drop i ++ [D.non])).all argL = true := List.all_eq_true.mpr fun d hd => by
    rcases List.mem_append.mp hd with hd | hd
    · exact (hall d (List.mem_of_mem_take hd)).1
    rcases List.mem_cons.mp hd with rfl | hd
    · exact hw.ar
    rcases List.mem_append.mp hd with hd | hd
    · exact (hall d (List.mem_of_mem_drop hd)).1
    · simp at hd
      rw [hd]
      rfl
  have hb : badAt cs 0 ((ls.map lkD).take i ++ w :: ((ls.map lkD).drop i ++ [D.non])) = some i := by
    rw [bad_mid hw.no fun d hd => (hall d (List.mem_of_mem_take hd)).2, l1, Nat.zero_add]
  simp only [t_law_7]
  simp [e1, e2, sizeLine_eq, -List.length_take, -List.length_drop, -List.map_take, -List.map_drop]
  refine ⟨by omega, by omega, by omega, cut_go ?_⟩
  generalize hB : (ls.map lkD).take i ++ w :: ((ls.map lkD).drop i ++ [D.non]) = bent at ha hb ⊢
  have hbl : bent.length ≤ 10 := by
    rw [← hB]
    simp only [List.length_append, List.length_cons, List.length_nil]
    omega
  simp [t_law_8, hP, sizeLine_eq]
  intro o3 q3 o2 q2 o1 q1 o0 q0
  refine cut_go ?_
  simp [t_law_9, sizeLine_eq]
  intro vs0
  refine ⟨[o3, o2, o1, o0], by simp [liftD, lift1], by simp, ?_⟩
  have hb3 := List.all_eq_true.mp ha
  refine asks_go [.error (er "InvalidLook" "at" (.int (i : Nat))), .error (er "InvalidLook" "at" (.int (i : Nat))), .error (er "InvalidLook" "at" (.int (i : Nat))), .ok (.bl true)] ?_ ?_
  · refine .cons ⟨fun Z Q h => ⟨3, q3, ?_⟩, tab_er (by decide +kernel)⟩ (.cons ⟨fun Z Q h => ⟨2, q2, ?_⟩, tab_er (by decide +kernel)⟩ (.cons ⟨fun Z Q h => ⟨1, q1, ?_⟩, tab_er (by decide +kernel)⟩ (.cons ⟨fun Z Q h => ⟨0, q0, ?_⟩, rfl⟩ .nil)))
    · simp [tsL, tl_3, toldK, hb]
      exact ⟨hb3, by omega, by omega, h⟩
    · simp [tsL, tl_2]
      exact at_bad_sure_word ha (by omega) hb _ _ _ _ _ h
    · simp [tsL, tl_1]
      exact at_bad_possible ha (by omega) hb _ _ _ _ _ _ h
    · simp [tsL, tl_0, -lcGo_cons]
      refine lc_mapB lkD (fun k => lkD ⟨true, k.row, k.w⟩) ls [] (fun k hk2 => ?_) (by rw [sizeLine_eq]; simp; omega) ?_
      · rw [(hk k hk2).eta]
        refine ⟨_, rfl, fun Q' q' => ?_⟩
        simp [sizeLine_eq]
        exact q'
      have em : (ls.map fun k => lkD ⟨true, k.row, k.w⟩) = (ls.map fun k => (⟨true, k.row, k.w⟩ : Lk)).map lkD := by rw [List.map_map]; rfl
      rw [List.nil_append, em, at_told]
      refine ⟨?_, by omega, by simp; omega, ?_⟩
      · rw [List.all_map, List.all_map, List.all_eq_true]
        exact fun k hk2 => (hk k hk2).arg hlen true
      unfold toldK
      rw [bad_none fun d hd => by
        obtain ⟨k2, hk3, rfl⟩ := List.mem_map.mp hd
        obtain ⟨k, hk4, rfl⟩ := List.mem_map.mp hk3
        exact (hk k hk4).good true]
      intro ls2 e2 _
      cases map_lkD_inj e2
      obtain ⟨o', ws', er⟩ := start_same (cs := cs) (ls := ls.map fun k => (⟨true, k.row, k.w⟩ : Lk)) (w0 := "x") fun k2 hk3 => by
        obtain ⟨k, hk4, rfl⟩ := List.mem_map.mp hk3
        exact (hk k hk4).w
      rw [er]
      simp [tbD, blD]
      exact h
  · simp [askD, fieldE, er]
    refine ⟨by simp [plainD], ?_⟩
    exact h4 _ _ ⟨hg, hP, _, _, _, _, _, _, _, _, _, _, _, rfl⟩

end
end L2.Dl
namespace L2.Dl
open PySem PySem.Spec PyProof.Rows
section
variable {P : Program} {w : World} {K : PySem.W.Frag} {mg : Str → Option Value} {base : Heap}
theorem law_a {tb : Nat → Addr} {Lx : Lmx} {E' : EndsD} {g : Addr} {ns : List Int} {M : MM} {x2 x5 x6 x7 x8 x9 x10 x11 x12 : Option D} {cs : List Str} {far : Str} (h4 : ∀ ds M, Wi Lx g ns ds M → E'.nx ds M) (C : Cds cs far) (hg : M.lookup g = some .bag) (hP : M.lookup Lx.P = some (.tab Lx.q)) :
    t_law_4 Lx tb E' [some (.scr ns), some (.ref g), x2, some (.lst (cs.map D.str)), some (.str far), x5, x6, x7, x8, x9, x10, x11, x12] M := by
  have hlen := C.len
  simp [t_law_4, hg, sizeLine_eq]
  intro r r0 r1
  refine ⟨by omega, by omega, ?_⟩
  refine lc_pred (fun y => ∃ k, y = lkD k ∧ LkX cs k) _ _ (fun x hx => ⟨_, rfl, fun Q' q' => ?_⟩) (by rw [sizeLine_eq, ranged_len]; simp; omega) fun ys hys hp => ?_
  · simp [hg, hlen]
    intro ys hy
    obtain ⟨row, hr, rfl⟩ := perm_map D.str hy cs rfl
    intro r2 s0 s1
    obtain ⟨k, rfl⟩ : ∃ k : Nat, r2 = k := ⟨r2.toNat, by omega⟩
    have ec : cutD (row.map D.str) none (some (1 + (k : Int))) = (row.take (k + 1)).map D.str := by
      rw [show (1 + (k : Int)) = ((k + 1 : Nat) : Int) by omega, cutD_to, List.map_take]
    have hrl : row.length = 4 := by rw [hr.length_eq]; exact hlen
    rw [ec]
    refine ⟨by rw [sizeLine_eq]; decide, q' _ ⟨⟨false, row.take (k + 1), "x"⟩, rfl, rfl, rfl, fun z => ?_, (hr.nodup_iff.mpr C.nd).sublist (List.take_sublist _ _), fun c hc => hr.mem_iff.mp (List.mem_of_mem_take hc)⟩⟩
    have := congrArg List.length (show row.take (k + 1) = [] from z)
    rw [List.length_take, hrl, List.length_nil] at this
    omega
  rw [ranged_len] at hys
  obtain ⟨ls, rfl, hk⟩ := looks_of hp
  have hl : ls.length ≤ 4 := by simp at hys; omega
  rw [List.nil_append]
  refine cut_go ?_
  simp [t_law_5, hg, sizeLine_eq]
  refine ⟨by omega, fun i0 i0n i0l => ?_⟩
  obtain ⟨i, rfl⟩ : ∃ i : Nat, i0 = i := ⟨i0.toNat, by omega⟩
  refine cut_go ?_
  obtain ⟨c0, c1, c2, c3, rfl⟩ : ∃ c0 c1 c2 c3, cs = [c0, c1, c2, c3] := by
    match cs, hlen with
    | [a, b, c, d], _ => exact ⟨a, b, c, d, rfl⟩
  have k1 : cutD [D.str c0, .str c1, .str c2, .str c3] none (some 1) = [.str c0] := rfl
  have k2 : cutD [D.str c0, .str c1, .str c2, .str c3] none (some 2) = [.str c0, .str c1] := rfl
  have W : ∀ w ∈ oddL c0 c1 far, Wrg [c0, c1, c2, c3] w := odd_wrg C
  simp only [t_law_6, dSeq_eq, dSet_eq]
  refine of_list (xs := oddL c0 c1 far) (i := 1) (fun Q' q' => ?_) hg rfl (by unfold oddL; simp) (by unfold oddL; simp) fun w hw => ?_
  · rw [dLst_eq]
    refine argV_go (vs := oddL c0 c1 far) ?_ ⟨by unfold oddL; rw [sizeLine_eq]; simp, q'⟩
    unfold oddL
    repeat' (refine argV_cons (fun Q q => ?_) ?_)
    all_goals first | exact argV_nil | (simp [k1, k2, sizeLine_eq]; exact q)
  · refine cut_go ?_
    exact law_b h4 C hl hk (by omega) (W w hw) hg hP

end
end L2.Dl
namespace L2.Dl
open PySem PySem.Spec PyProof.Rows
section
variable {P : Program} {w : World} {K : PySem.W.Frag} {mg : Str → Option Value} {base : Heap}
theorem go_law (Lx : Lmx) (tb : Nat → Addr) (eP : Lx.P = tb 0) (eq : Lx.q = "law.<locals>.<lambda>") : ∀ xs M Z Q, spLawTs (lawTs tb) xs M Z Q → (t_law_0 Lx tb) { nx := fun _ M' => Q .non M', rt := Q, xc := fun C fs _ M' => Z C fs M' } (startD N_law xs) M := by
  intro xs M Z Q h
  obtain ⟨ns, rfl, rfl, hnd, q⟩ := h
  simp [N_law]
  simp [t_law_0]
  refine ⟨ns, rfl, fun g hg => cut_go ?_⟩
  simp [t_law_1, sizeLine_eq]
  have hgP := hg
  simp [lawTs] at hgP
  have lk2 : List.lookup Lx.P ((g, MO.bag) :: (lawTs tb).map fun p => (p.1, MO.tab p.2)) = some (.tab Lx.q) := by
    rw [eP, eq]
    have e : (tb 0 == g) = false := by simpa using fun z => hgP z.symm
    simp [List.lookup, e, lawTs]
  refine for_inv (fun rem ds M => Wi Lx g ns ds M) ?turn ?done _ _ _ ⟨look_cons, lk2, _, _, _, _, _, _, _, _, _, _, _, rfl⟩
  case done =>
    rintro ds M ⟨hg, hP, x2, x3, x4, x5, x6, x7, x8, x9, x10, x11, x12, rfl⟩
    dsimp only
    refine cut_go ?_
    simp [t_law_11]
    exact q _
  case turn =>
    rintro x xs ds M ⟨hg, hP, x2, x3, x4, x5, x6, x7, x8, x9, x10, x11, x12, rfl⟩
    refine ⟨_, rfl, fun E' h1 h2 h3 h4 h5 => ?_⟩
    simp [t_law_2]
    refine ⟨g, 5, rfl, hg, by decide, fun zs hl hz hn => ?_⟩
    refine cut_go ?_
    have c4 : cutD (zs.map D.str) none (some 4) = (zs.take 4).map D.str := by
      rw [show (some (4 : Int)) = some ((4 : Nat) : Int) from rfl, cutD_to, List.map_take]
    obtain ⟨far, i4, hf1, hf2⟩ : ∃ far, L2.atI (zs.map D.str) 4 = some (.str far) ∧ far ∉ zs.take 4 ∧ far ∈ zs := by
      match zs, hl, hn with
      | [n0, n1, n2, n3, n4], _, hn =>
        refine ⟨n4, rfl, fun z => ?_, by simp⟩
        have hn2 : ([n0, n1, n2, n3] ++ [n4]).Nodup := hn
        rw [List.nodup_append] at hn2
        exact hn2.2.2 n4 z n4 (by simp) rfl
    simp [t_law_3, c4, i4, sizeLine_eq, -List.map_take]
    have C : Cds (zs.take 4) far := ⟨by simp; omega, hn.sublist (List.take_sublist _ _), hf1, fun c hc => hz c (List.mem_of_mem_take hc), hz far hf2⟩
    refine cut_go ?_
    exact law_a h4 C hg hP


end
end L2.Dl
namespace L2.Dl
open PySem PySem.Spec PyProof.Rows
section
variable {P : Program} {w : World} {K : PySem.W.Frag} {mg : Str → Option Value} {base : Heap}
theorem ok_law (T : Tx P K mg) (B : Bx K mg base) {fd : FuncData} (F : FunD K "law" "law" (defArgs s_law) (defBody s_law) (defScope s_law) [] [] (He.fAd K ("law", none)) fd) : FnOk P w K mg base (L2.CX P w) 14 (He.fAd K ("law", none)) fd ["_law_script"] (spOf K (spLawTs (lawTs (tbK K)))) := by
  refine fn_dT (k := 13) (t := fun X => (fun Lx tb => (t_law_0 Lx tb)) (lxX (tbK K 0) X) (tbK K)) F (B.code ("law", none) (by decide)) sc_law (fun X A outer s H E hX hr hp => by
    subst hX
    exact (s_cons (s_set (i := 1) sc_law.nd rfl (.inr rfl) (d_call (cal_fn (fs__law_bag T) (hr.mono (by omega))) (kp__law_bag T) (T.glo (T.says.fact 36 rfl)) (ad_cons (d_v 0) ad_nil)))
    (s_cons (s_for hp rfl (i_range1 (T.free (T.says.fact 22 rfl)) d_int) (g_one (i := 2) sc_law.nd rfl (.inl rfl))
    (s_cons (s_set (i := 3) sc_law.nd rfl (.inr rfl) (d_call (cal_fn (fs__law_names T) (hr.mono (by omega))) (kp__law_names T) (T.glo (T.says.fact 37 rfl)) (ad_cons (d_v 1) (ad_cons d_int ad_nil))))
    (s_cons (s_asg (d_tup (ad_cons (d_ix (d_v 3) d_int) (ad_cons (d_slice (d_v 3) od_none (od_some d_int)) ad_nil))) (g_tup (is := [4, 3]) rfl (gs_cons (g_one (i := 4) sc_law.nd rfl (.inl rfl)) (gs_cons (g_one (i := 3) sc_law.nd rfl (.inr rfl)) gs_nil))))
    (s_cons (s_set (i := 5) sc_law.nd rfl (.inr rfl) (d_lc (own := [("_law_k", 6)]) (g := .one 6) rfl sc_law.nd (i_range1 (T.free (T.says.fact 22 rfl)) (d_call (cal_fn (fs__law_pick T) (hr.mono (by omega))) (kp__law_pick T) (T.glo (T.says.fact 4 rfl)) (ad_cons (d_v 1) (ad_cons d_int ad_nil)))) (blkOk_by (own := [("_law_k", 6)]) (N := N_law) (sc := defScope s_law) (by decide +kernel))
      (fun _ _ _ _ _ => pg_name (i := 6) sc_law.nd rfl (Or.inl rfl)) (fun _ _ _ _ _ => ts_nil) (fun _ _ _ _ _ => (d_tup (ad_cons (d_slice (d_call (cal_fn (fs__law_mixed T) (hr.mono (by omega))) (kp__law_mixed T) (T.glo (T.says.fact 20 rfl)) (ad_cons (d_v 1) (ad_cons (d_v 3) ad_nil))) od_none (od_some (d_op o_add d_int (d_call (cal_fn (fs__law_pick T) (hr.mono (by omega))) (kp__law_pick T) (T.glo (T.says.fact 4 rfl)) (ad_cons (d_v 1) (ad_cons d_int ad_nil)))))) (ad_cons d_str ad_nil))))))
    (s_cons (s_set (i := 7) sc_law.nd rfl (.inl rfl) (d_call (cal_fn (fs__law_pick T) (hr.mono (by omega))) (kp__law_pick T) (T.glo (T.says.fact 4 rfl)) (ad_cons (d_v 1) (ad_cons (d_op o_add (d_callB k_len (T.free (T.says.fact 1 rfl)) bf_len (ad_cons (d_v 5) ad_nil)) d_int) ad_nil))))
    (s_cons (s_set (i := 8) sc_law.nd rfl (.inl rfl) (d_call (cal_fn (fs__law_of T) (hr.mono (by omega))) (kp__law_of T) (T.glo (T.says.fact 21 rfl)) (ad_cons (d_v 1) (ad_cons (d_lst (ad_cons d_non (ad_cons d_int (ad_cons d_str (ad_cons (d_lst (ad_cons (d_slice (d_v 3) od_none (od_some d_int)) (ad_cons d_str ad_nil))) (ad_cons (d_tup (ad_cons (d_slice (d_v 3) od_none (od_some d_int)) ad_nil)) (ad_cons (d_tup (ad_cons (d_slice (d_v 3) od_none (od_some d_int)) (ad_cons d_str (ad_cons d_str ad_nil)))) (ad_cons (d_tup (ad_cons (d_lst ad_nil) (ad_cons d_str ad_nil))) (ad_cons (d_tup (ad_cons (d_lst (ad_cons (d_v 4) ad_nil)) (ad_cons d_str ad_nil))) (ad_cons (d_tup (ad_cons (d_op o_add (d_slice (d_v 3) od_none (od_some d_int)) (d_slice (d_v 3) od_none (od_some d_int))) (ad_cons d_str ad_nil))) (ad_cons (d_tup (ad_cons (d_slice (d_v 3) od_none (od_some d_int)) (ad_cons d_non ad_nil))) (ad_cons (d_tup (ad_cons (d_slice (d_v 3) od_none (od_some d_int)) (ad_cons d_str ad_nil))) (ad_cons (d_tup (ad_cons (d_ix (d_v 3) d_int) (ad_cons d_str ad_nil))) (ad_cons (d_tup (ad_cons d_non (ad_cons d_str ad_nil))) (ad_cons (d_tup (ad_cons (d_lst (ad_cons d_non ad_nil)) (ad_cons d_str ad_nil))) ad_nil))))))))))))))) ad_nil))))
    (s_cons (s_set (i := 9) sc_law.nd rfl (.inr rfl) (d_op o_add (d_op o_add (d_op o_add (d_slice (d_v 5) od_none (od_some (d_v 7))) (d_lst (ad_cons (d_v 8) ad_nil))) (d_slice (d_v 5) (od_some (d_v 7)) od_none)) (d_lst (ad_cons d_non ad_nil))))
    (s_cons (s_set (i := 10) sc_law.nd rfl (.inl rfl) (d_lst (ad_cons (d_lam0 (Lx := lxX (tbK K 0) (cxOf (L2.CX P w) P w K mg base N_law "law" (defScope s_law) (He.fAd K ("law", none)) (.ref (tabC K ("law", none))) A outer s H E)) 3 (B.tb ("law", none) (by decide)) rfl rfl (fun o h => h) ls_3.free) (ad_cons (d_lam1 (Lx := lxX (tbK K 0) (cxOf (L2.CX P w) P w K mg base N_law "law" (defScope s_law) (He.fAd K ("law", none)) (.ref (tabC K ("law", none))) A outer s H E)) 2 (B.tb ("law", none) (by decide)) rfl rfl (fun o h => h) ls_2.free) (ad_cons (d_lam1 (Lx := lxX (tbK K 0) (cxOf (L2.CX P w) P w K mg base N_law "law" (defScope s_law) (He.fAd K ("law", none)) (.ref (tabC K ("law", none))) A outer s H E)) 1 (B.tb ("law", none) (by decide)) rfl rfl (fun o h => h) ls_1.free) (ad_cons (d_lam1 (Lx := lxX (tbK K 0) (cxOf (L2.CX P w) P w K mg base N_law "law" (defScope s_law) (He.fAd K ("law", none)) (.ref (tabC K ("law", none))) A outer s H E)) 0 (B.tb ("law", none) (by decide)) rfl rfl (fun o h => h) ls_0.free) ad_nil))))))
    (s_one (s_if (t_not (d_tval (d_call (cal_fn (fs__law_like T 3) (hr.mono (by omega))) (kp__law_like T) (T.glo (T.says.fact 8 rfl)) (ad_cons (d_callM (fun base vs0 ds0 mean ac => fa__law_asks (base := base) T ac) (fun _ => rfl) (hr.mono (by omega)) (ld_law T B (tbK K 0)) (kp__law_asks T) (T.glo (T.says.fact 38 rfl)) (ad_cons (d_v 10) ad_nil)) (ad_cons (d_op o_add (d_op o_rep (d_lst (ad_cons (d_tup (ad_cons d_str (ad_cons (d_v 7) ad_nil))) ad_nil)) d_int) (d_lst (ad_cons (d_tup (ad_cons d_str (ad_cons d_bl ad_nil))) ad_nil))) ad_nil)))))
    (s_one (s_ret d_bl))
    s_nil))))))))))
    (s_one (s_ret d_bl))))) (fun A outer s H E xs M Z Q h => ⟨?_, go_law (lxX (tbK K 0) (cxOf (L2.CX P w) P w K mg base N_law "law" (defScope s_law) (He.fAd K ("law", none)) (.ref (tabC K ("law", none))) A outer s H E)) (tbK K) rfl rfl xs M Z Q h⟩) (fun xs M Z Q h => ?_)
  · obtain ⟨ns, rfl, _⟩ := h
    rfl
  · obtain ⟨ns, rfl, _⟩ := h
    rfl

end
end L2.Dl
namespace L2.Dl
open PySem PySem.Spec PyProof.Rows
theorem facts {P : Program} {w : World} {K : PySem.W.Frag} {h : Heap} {mg : Str → Option Value} {f : Addr} (X : K.In h) (G : h.Ns mainGlobals mg) (hfa : mg ("law" : Str) = some (.ref f)) (hP : PFile P "/claim/cut.py") (c : SaysZ fa fn fx fe fr K) :
    ∃ fd : FuncData, (∀ (s : Shared) (v : Value), BindsTo s fd ⟨[v], []⟩ [("_law_script", v)]) ∧ ∀ base : Heap, K.In base → base.Ns mainGlobals mg → Tbs ts K mg base → FnOk P w K mg base (L2.CX P w) 14 f fd ["_law_script"] (spOf K (spLawTs (lawTs (tbK K)))) := by
  have T : Tx P K mg := topZ_of hP X G c
  obtain ⟨fd, F⟩ := fd_law T
  have e := hfa.symm.trans (T.glo (T.says.fact 43 rfl))
  cases e
  have b := FunD.bindsA (ps := ["_law_script"]) F fun _ _ _ _ _ _ us hl => match us, hl with | [_], _ => rfl
  exact ⟨fd, fun s v => b s [v] rfl, fun base _ _ B => ok_law T B F⟩
theorem lawTs_nd {K : PySem.W.Frag} {h : Heap} (t : TabsAt ts K h) : ((lawTs (tbK K)).map (·.1)).Nodup := t.nd
theorem lawTs_at {K : PySem.W.Frag} {H : Hp} (h : ∀ t ∈ ts, H (tabP K t) = some (.tbl #[])) : ∀ p ∈ lawTs (tbK K), H p.1 = some (.tbl #[]) := by
  intro p hp
  have hm : p.1 ∈ ts.map (tabP K) := by
    have : (lawTs (tbK K)).map (·.1) = ts.map (tabP K) := rfl
    rw [← this]
    exact List.mem_map.mpr ⟨p, hp, rfl⟩
  obtain ⟨t, ht, e⟩ := List.mem_map.mp hm
  rw [← e]
  exact h t ht
end L2.Dl
open PySem PySem.W PySem.Calls PyProof.Rows
theorem PySem.Challenge.cw_cardsapart_k52_looks_refused_holds : PySem.Challenge.rw_cardsapart_k52_looks_refused.Holds := by
  w_on; o_law
  refine HandSHeadRun.head_any (r := OpenLaw.row PySem.Challenge.rw_cardsapart_k52_looks_refused) (q := view (OpenLaw.row PySem.Challenge.rw_cardsapart_k52_looks_refused).prog [36]) (H := L2.Dl.hk) (ob := L2.Dl.ob) (M := 20000) (loose := L2.Dl.loose) (d := HandSHeadRun.topDef (OpenLaw.row PySem.Challenge.rw_cardsapart_k52_looks_refused).prog 36) (kwd := []) L2.Dl.ob_eq
    (by kernel_rfl) (fun s => by kernel_rfl) L2.Dl.run (by kernel_rfl) (by kernel_rfl) (by kernel_rfl) (by rfl) (by first | assumption | decide +kernel) (by decide +kernel) ⟨rfl, rfl, rfl, rfl, rfl, by decide +kernel⟩ ?hw ?hc
  case hw => w_witness2
  case hc =>
    refine L2.Dl.walk_ofTs (l := PySem.Challenge.rw_cardsapart_k52_looks_refused) (n := 63) (k := 14) (x := "_law_script") (CX := fun outer H s E e s' => ∃ w, L2.CX (PySem.Challenge.rw_cardsapart_k52_looks_refused).prog w outer H s E e s') rfl (by decide) (by kernel_rfl) ⟨rfl, by decide, by decide⟩ ?F (fun H s e s' ⟨w, z⟩ => L2.Dl.cx_false H s e s' z)
    intro w mg fa h Y G hmg0
    obtain ⟨K, KX, c, TA⟩ := Y
    have hmg : mg ("law" : PySem.Str) = some (.ref fa) := by
      have e : (HandSHeadRun.topDef (OpenLaw.row PySem.Challenge.rw_cardsapart_k52_looks_refused).prog 36).name = ("law" : PySem.Str) := by kernel_rfl
      rw [← e]
      exact hmg0
    obtain ⟨fd, hb, hF⟩ := L2.Dl.facts (P := (PySem.Challenge.rw_cardsapart_k52_looks_refused).prog) (w := w) KX G hmg ⟨by kernel_rfl, by kernel_rfl⟩ c
    exact ⟨K, fd, L2.Dl.ts, L2.Dl.spOf K (L2.Dl.spLawTs (L2.Dl.lawTs (L2.Dl.tbK K))), KX, TA, hb, fun H a ns hl hP hS => L2.Dl.law_spTs (L2.Dl.lawTs_nd TA) (L2.Dl.lawTs_at hP) hS, fun base kb nb tb => L2.Dl.fn_cx (hF base kb nb tb)⟩
