import PyProof.Rows.All
import Wide.All
import OpenK.AllK
import Wide.FinOn
import HandS.ForMost
import HandS.ForExc
import HandS.IsInst
import HandS.CallSlots
import HandS.ExcOwn
import HandS.Words
import HandS.Deep
import HandS.List
import HandS.Dict
import HandS.Text
import HandS.Flow
import HandS.Replace
import HandS.RaiseMore
import HandS.Iter
import HandS.Zip
import KE.GoesMore
import HandS.Small
import HandS.More
import HandS.SetKeys
import HandS.ExcInit
import HandS.ExcField
import HandS.ExcIs
import HandS.TryElse
import KE.SortData
import HandS.Conv
import HandS.TupMul
import HandS.Style
import HandS.ExcValue
import PyProof.FString5
import PyProof.WalkInts
import PyProof.SeqI3
import HandS.EndBits
import KE.KExcInit
import PySem.Challenge.RW_digbook_k04_letters_and_meetings
set_option Elab.async false
set_option linter.all false
set_option maxHeartbeats 4000000
/-! DGa: data of the little Python (D), with marks of ownership; what stands in the abstract heap for it. -/
namespace DG
open PySem PySem.Spec PyProof.Rows L2
/-- own: this place alone refers to it; fr: frozen in this frame, made in it; sh: frozen; ro: lent by the caller; lk: own, locked while a loop walks it -/
inductive Fl where
  | own | fr | sh | ro | lk
  deriving DecidableEq, Repr
inductive D where
  | non | bl (b : Bool) | int (i : Int) | str (x : Str)
  | tup (ds : List D)
  | lst (f : Fl) (ds : List D)
  | dk (f : Fl) (ks : List (Key × D))
  | dt (f : Fl) (ks : List (List Key × D))
  | ins (f : Fl) (c : Str) (fs : List (Str × D))
  | exc (f : Fl) (c : Str) (fs : List (Str × D))
  | fn (n : Str)
  | ty (n : String)
  | kd (f : Fl) (ks : List (Key × V))
/-! ### marks changed, marks looked at -/
mutual
def mapF (g : Fl → Fl) : D → D
  | .non => .non | .bl b => .bl b | .int i => .int i | .str x => .str x
  | .tup ds => .tup (mapFL g ds)
  | .lst f ds => .lst (g f) (mapFL g ds)
  | .dk f ks => .dk (g f) (mapFK g ks)
  | .dt f ks => .dt (g f) (mapFT g ks)
  | .ins f c fs => .ins (g f) c (mapFS g fs)
  | .exc f c fs => .exc (g f) c (mapFS g fs)
  | .fn n => .fn n
  | .ty n => .ty n
  | .kd f ks => .kd (g f) ks
def mapFL (g : Fl → Fl) : List D → List D
  | [] => [] | d :: r => mapF g d :: mapFL g r
def mapFK (g : Fl → Fl) : List (Key × D) → List (Key × D)
  | [] => [] | (k, d) :: r => (k, mapF g d) :: mapFK g r
def mapFT (g : Fl → Fl) : List (List Key × D) → List (List Key × D)
  | [] => [] | (k, d) :: r => (k, mapF g d) :: mapFT g r
def mapFS (g : Fl → Fl) : List (Str × D) → List (Str × D)
  | [] => [] | (k, d) :: r => (k, mapF g d) :: mapFS g r
end
mutual
/-- all marks are so -/
def allF (p : Fl → Bool) : D → Bool
  | .non => true | .bl _ => true | .int _ => true | .str _ => true
  | .tup ds => allFL p ds
  | .lst f ds => p f && allFL p ds
  | .dk f ks => p f && allFK p ks
  | .dt f ks => p f && allFT p ks
  | .ins f c fs => p f && allFS p fs
  | .exc f c fs => p f && allFS p fs
  | .fn _ => true
  | .ty _ => true
  | .kd f _ => p f
def allFL (p : Fl → Bool) : List D → Bool
  | [] => true | d :: r => allF p d && allFL p r
def allFK (p : Fl → Bool) : List (Key × D) → Bool
  | [] => true | (_, d) :: r => allF p d && allFK p r
def allFT (p : Fl → Bool) : List (List Key × D) → Bool
  | [] => true | (_, d) :: r => allF p d && allFT p r
def allFS (p : Fl → Bool) : List (Str × D) → Bool
  | [] => true | (_, d) :: r => allF p d && allFS p r
end
/-- nothing in it may change -/
abbrev imm (d : D) : Bool := allF (fun _ => false) d
def noLk : Fl → Bool | .lk => false | _ => true
def shF (io : Bool) : Fl → Fl | .own => if io then .sh else .fr | f => f
abbrev share (io : Bool) : D → D := mapF (shF io)
abbrev lend : D → D := mapF (fun _ => .ro)

mutual
theorem mapF_imm (g : Fl → Fl) : ∀ d : D, imm d = true → mapF g d = d
  | .non, _ => rfl | .bl _, _ => rfl | .int _, _ => rfl | .str _, _ => rfl
  | .tup ds, h => by rw [mapF, mapFL_imm g ds h]
  | .lst _ _, h => by simp [imm, allF] at h
  | .dk _ _, h => by simp [imm, allF] at h
  | .dt _ _, h => by simp [imm, allF] at h
  | .ins _ _ _, h => by simp [imm, allF] at h
  | .exc _ _ _, h => by simp [imm, allF] at h
  | .fn _, _ => rfl
  | .ty _, _ => rfl
  | .kd _ _, h => by simp [imm, allF] at h
theorem mapFL_imm (g : Fl → Fl) : ∀ ds : List D, allFL (fun _ => false) ds = true → mapFL g ds = ds
  | [], _ => rfl
  | d :: r, h => by
    simp only [allFL, Bool.and_eq_true] at h
    rw [mapFL, mapF_imm g d h.1, mapFL_imm g r h.2]
end

/-! ### what stands for it -/
structure Zo where
  K : PySem.W.Frag
  gm : Str → Option Value
  S : Addr → Prop
  R : Addr → Prop
  H0 : Hp
  lk : List Addr
def At (H : Hp) (f : Fl) (a : Addr) (u : HO) : Prop := match f with
  | .own => H a = some u
  | .lk => H a = some u
  | _ => Rd H a u
def FlA : Fl → Addr → List Addr
  | .own, a => [a]
  | .lk, a => [a]
  | _, _ => []
def FlOk (z : Zo) (a : Addr) : Fl → Prop
  | .own => a ∉ z.lk
  | .lk => a ∈ z.lk
  | .fr => z.S a ∧ z.H0 a = none
  | .sh => z.S a
  | .ro => z.R a
inductive Sg where
  | v (v : V) (d : D)
  | l (xs : List V) (ds : List D)
  | k (ks : List (Key × V)) (es : List (Key × D))
  | t (ks : List (List Key × V)) (es : List (List Key × D))
  | s (fs : List (Str × V)) (es : List (Str × D))
/-- a tuple: tracked, or of the written part (then without what may change) -/
def TupAt (K : PySem.W.Frag) (H : Hp) (a : Addr) (xs : List V) (ds : List D) : Prop := Rd H a (.tup xs)
/-- at a: an exception of the class at C, its dict dd -/
def ExcP (a C : Addr) (dd : Option Addr) : Heap → Prop := fun h => ∃ (o : Obj) (vs : Array Value), h.get? a = some o ∧ o.cls = .ref C ∧ o.dict = dd ∧ o.data = .fields vs
theorem ExcP.inj {a C C' : Addr} {dd dd' : Option Addr} (h : ExcP a C dd = ExcP a C' dd') : C = C' ∧ dd = dd' := by
  let o : Obj := { cls := .ref C, dict := dd, data := .fields #[] }
  let g : Heap := { objs := Array.replicate (a + 1) o }
  have e : g.get? a = some o := by
    show (match (Array.replicate (a + 1) o)[a]? with | some ⟨_, _, .freed, _⟩ => none | o => o) = _
    rw [Array.getElem?_replicate, if_pos (Nat.lt_succ_self a)]
  have h1 : ExcP a C dd g := ⟨o, #[], e, rfl, rfl, rfl⟩
  rw [h] at h1
  obtain ⟨o', vs, e2, h2, h3, _⟩ := h1
  rw [e] at e2
  cases e2
  exact ⟨by cases h2; rfl, h3⟩
/-- the dict of an exception, with its fields -/
def XdAt (z : Zo) (H : Hp) (f : Fl) : Option Addr → List (Str × V) → Prop
  | none, fv => fv = []
  | some dd, fv => Rd H dd (.xd fv) ∧ FlOk z dd f
/-- the value v stands for d; A: the addresses that are its own -/
inductive Rp (z : Zo) (H : Hp) : Sg → List Addr → Prop
  | non : Rp z H (.v .non .non) []
  | bl (b : Bool) : Rp z H (.v (.bl b) (.bl b)) []
  | int (i : Int) : Rp z H (.v (.int i) (.int i)) []
  | str (x : Str) : Rp z H (.v (.str x) (.str x)) []
  | ty (n : String) : Rp z H (.v (.ty n) (.ty n)) []
  | fn {n : Str} {a : Addr} : z.gm n = some (.ref a) → Rp z H (.v (.ref a) (.fn n)) []
  | tup {a : Addr} {xs : List V} {ds : List D} {A : List Addr} : TupAt z.K H a xs ds → Rp z H (.l xs ds) A → Rp z H (.v (.ref a) (.tup ds)) A
  | lst {f : Fl} {a : Addr} {xs : List V} {ds : List D} {A : List Addr} : At H f a (.lst xs) → FlOk z a f → Rp z H (.l xs ds) A → Rp z H (.v (.ref a) (.lst f ds)) (FlA f a ++ A)
  | dk {f : Fl} {a : Addr} {ks : List (Key × V)} {es : List (Key × D)} {A : List Addr} : At H f a (.dK ks) → FlOk z a f → (es.map (·.1)).Nodup → Rp z H (.k ks es) A → Rp z H (.v (.ref a) (.dk f es)) (FlA f a ++ A)
  | dt {f : Fl} {a : Addr} {ks : List (List Key × V)} {es : List (List Key × D)} {A : List Addr} : At H f a (.dT ks) → FlOk z a f → (es.map (·.1)).Nodup → Rp z H (.t ks es) A → Rp z H (.v (.ref a) (.dt f es)) (FlA f a ++ A)
  | ins {f : Fl} {a C dx : Addr} {c : Str} {fs : List (Str × V)} {es : List (Str × D)} {A : List Addr} : At H f a (.ins C dx fs) → FlOk z a f → z.gm c = some (.ref C) → Rp z H (.s fs es) A → Rp z H (.v (.ref a) (.ins f c es)) (FlA f a ++ A)
  | exc {f : Fl} {a C : Addr} {dd : Option Addr} {c : Str} {fs : List (Str × V)} {es : List (Str × D)} {A : List Addr} : (∀ b, FlA f b = []) → Rd H a (.ext (ExcP a C dd)) → FlOk z a f → XdAt z H f dd fs → z.gm c = some (.ref C) → Rp z H (.s fs es) A → Rp z H (.v (.ref a) (.exc f c es)) A
  | kd {f : Fl} {a : Addr} {kvs : List (Key × V)} : (∀ b, FlA f b = []) → Rd H a (.dK kvs) → FlOk z a f → Rp z H (.v (.ref a) (.kd f kvs)) []
  | nil : Rp z H (.l [] []) []
  | cons {v : V} {d : D} {vs : List V} {ds : List D} {A B : List Addr} : Rp z H (.v v d) A → Rp z H (.l vs ds) B → Rp z H (.l (v :: vs) (d :: ds)) (A ++ B)
  | knil : Rp z H (.k [] []) []
  | kcons {k : Key} {v : V} {d : D} {vs : List (Key × V)} {ds : List (Key × D)} {A B : List Addr} : Rp z H (.v v d) A → Rp z H (.k vs ds) B → Rp z H (.k ((k, v) :: vs) ((k, d) :: ds)) (A ++ B)
  | tnil : Rp z H (.t [] []) []
  | tcons {k : List Key} {v : V} {d : D} {vs : List (List Key × V)} {ds : List (List Key × D)} {A B : List Addr} : Rp z H (.v v d) A → Rp z H (.t vs ds) B → Rp z H (.t ((k, v) :: vs) ((k, d) :: ds)) (A ++ B)
  | snil : Rp z H (.s [] []) []
  | scons {k : Str} {v : V} {d : D} {vs : List (Str × V)} {ds : List (Str × D)} {A B : List Addr} : Rp z H (.v v d) A → Rp z H (.s vs ds) B → Rp z H (.s ((k, v) :: vs) ((k, d) :: ds)) (A ++ B)

theorem At.rd {H : Hp} {f : Fl} {a : Addr} {u : HO} (h : At H f a u) : Rd H a u := by
  cases f
  · exact .inl h
  · exact h
  · exact h
  · exact h
  · exact .inl h
/-- what a zone must keep for what stands in it -/
structure ZLe (z z' : Zo) : Prop where
  K : z'.K = z.K
  gm : z'.gm = z.gm
  S : ∀ a, z.S a → z'.S a
  R : ∀ a, z.R a → z'.R a
  H0 : ∀ a, z.S a → z.H0 a = none → z'.H0 a = none
  lk : z'.lk = z.lk
theorem ZLe.refl (z : Zo) : ZLe z z := ⟨rfl, rfl, fun _ h => h, fun _ h => h, fun _ _ h => h, rfl⟩
theorem FlOk.mono {z z' : Zo} (k : ZLe z z') {a : Addr} {f : Fl} (h : FlOk z a f) : FlOk z' a f := by
  cases f with
  | own => show a ∉ z'.lk; rw [k.lk]; exact h
  | fr => exact ⟨k.S _ h.1, k.H0 _ h.1 h.2⟩
  | sh => exact k.S _ h
  | ro => exact k.R _ h
  | lk => show a ∈ z'.lk; rw [k.lk]; exact h
theorem SqT.mono {K : PySem.W.Frag} {H H' : Hp} {a : Addr} {xs : List V} (h : SqT K H a xs) (k : ∀ u, Rd H a (.tup u) → Rd H' a (.tup u)) : SqT K H' a xs := by
  rcases h with h | h
  · exact .inl (k _ h)
  · exact .inr h
theorem TupAt.seq {K : PySem.W.Frag} {H : Hp} {a : Addr} {xs : List V} {ds : List D} (h : TupAt K H a xs ds) : SqT K H a xs := .inl h
theorem TupAt.mono {K : PySem.W.Frag} {H H' : Hp} {a : Addr} {xs : List V} {ds : List D} (h : TupAt K H a xs ds) (k : ∀ u, Rd H a (.tup u) → Rd H' a (.tup u)) : TupAt K H' a xs ds := k _ h
theorem TupAt.mapL {K : PySem.W.Frag} {H : Hp} {a : Addr} {xs : List V} {ds : List D} (g : Fl → Fl) (h : TupAt K H a xs ds) : TupAt K H a xs (mapFL g ds) := h
/-- what is kept of the heap: tuples, what is frozen, what is lent -/
structure HLe (z : Zo) (H H' : Hp) : Prop where
  t : ∀ a u, Rd H a (.tup u) → Rd H' a (.tup u)
  S : ∀ a u, (∀ x y, u ≠ .frz x y) → z.S a → Rd H a u → Rd H' a u
  R : ∀ a u, (∀ x y, u ≠ .frz x y) → z.R a → Rd H a u → Rd H' a u
theorem HLe.of {z : Zo} {H H' : Hp} (k : ∀ a u, Rd H a u → Rd H' a u) : HLe z H H' := ⟨fun a u => k a _, fun a u _ _ => k a u, fun a u _ _ => k a u⟩
theorem HLe.refl {z : Zo} {H : Hp} : HLe z H H := .of fun _ _ h => h
theorem At.mono {z : Zo} {H H' : Hp} {f : Fl} {a : Addr} {u : HO} {B : List Addr} (h : At H f a u) (o : FlOk z a f) (kh : HLe z H H') (kA : ∀ b ∈ FlA f a ++ B, H' b = H b) (n : ∀ x y, u ≠ .frz x y := by intro x y q; cases q) : At H' f a u := by
  cases f with
  | own => show H' a = some u; rw [kA a (by simp [FlA])]; exact h
  | fr => exact kh.S _ _ n o.1 h
  | sh => exact kh.S _ _ n o h
  | ro => exact kh.R _ _ n o h
  | lk => show H' a = some u; rw [kA a (by simp [FlA])]; exact h
theorem At.mono' {z : Zo} {H H' : Hp} {f : Fl} {a : Addr} {u : HO} (e : ∀ b, FlA f b = []) (h : Rd H a u) (o : FlOk z a f) (kh : HLe z H H') (n : ∀ x y, u ≠ .frz x y := by intro x y q; cases q) : Rd H' a u := by
  cases f with
  | own => cases e a
  | fr => exact kh.S _ _ n o.1 h
  | sh => exact kh.S _ _ n o h
  | ro => exact kh.R _ _ n o h
  | lk => cases e a
theorem XdAt.mono {z z' : Zo} {H H' : Hp} {f : Fl} {dd : Option Addr} {fv : List (Str × V)} (h : XdAt z H f dd fv) (e : ∀ b, FlA f b = []) (k : ZLe z z') (kh : HLe z H H') : XdAt z' H' f dd fv := by
  cases dd with
  | none => exact h
  | some dd => exact ⟨At.mono' e h.1 h.2 kh, h.2.mono k⟩
theorem Rp.mono {z z' : Zo} {H H' : Hp} {g : Sg} {A : List Addr} (h : Rp z H g A) (k : ZLe z z') (kh : HLe z H H') (kA : ∀ a ∈ A, H' a = H a) : Rp z' H' g A := by
  induction h with
  | non => exact .non
  | bl b => exact .bl b
  | int i => exact .int i
  | str x => exact .str x
  | ty n => exact .ty n
  | fn e => exact .fn (by rw [k.gm]; exact e)
  | tup t _ ih => exact .tup (by rw [k.K]; exact t.mono (kh.t _)) (ih kA)
  | lst a o _ ih => exact .lst (a.mono o kh kA) (o.mono k) (ih fun b hb => kA b (List.mem_append_right _ hb))
  | dk a o n _ ih => exact .dk (a.mono o kh kA) (o.mono k) n (ih fun b hb => kA b (List.mem_append_right _ hb))
  | dt a o n _ ih => exact .dt (a.mono o kh kA) (o.mono k) n (ih fun b hb => kA b (List.mem_append_right _ hb))
  | ins a o e _ ih => exact .ins (a.mono o kh kA) (o.mono k) (by rw [k.gm]; exact e) (ih fun b hb => kA b (List.mem_append_right _ hb))
  | kd e a o => exact .kd e (At.mono' e a o kh) (o.mono k)
  | exc e a o x q _ ih => exact .exc e (At.mono' e a o kh) (o.mono k) (x.mono e k kh) (by rw [k.gm]; exact q) (ih kA)
  | nil => exact .nil
  | cons _ _ i1 i2 => exact .cons (i1 fun b hb => kA b (List.mem_append_left _ hb)) (i2 fun b hb => kA b (List.mem_append_right _ hb))
  | knil => exact .knil
  | kcons _ _ i1 i2 => exact .kcons (i1 fun b hb => kA b (List.mem_append_left _ hb)) (i2 fun b hb => kA b (List.mem_append_right _ hb))
  | tnil => exact .tnil
  | tcons _ _ i1 i2 => exact .tcons (i1 fun b hb => kA b (List.mem_append_left _ hb)) (i2 fun b hb => kA b (List.mem_append_right _ hb))
  | snil => exact .snil
  | scons _ _ i1 i2 => exact .scons (i1 fun b hb => kA b (List.mem_append_left _ hb)) (i2 fun b hb => kA b (List.mem_append_right _ hb))

/-! ### lent, frozen -/
def mapS (g : Fl → Fl) : Sg → Sg
  | .v v d => .v v (mapF g d)
  | .l xs ds => .l xs (mapFL g ds)
  | .k xs ds => .k xs (mapFK g ds)
  | .t xs ds => .t xs (mapFT g ds)
  | .s xs ds => .s xs (mapFS g ds)
def allS (p : Fl → Bool) : Sg → Bool
  | .v v d => allF p d
  | .l xs ds => allFL p ds
  | .k xs ds => allFK p ds
  | .t xs ds => allFT p ds
  | .s xs ds => allFS p ds
theorem mapFK_keys (g : Fl → Fl) : ∀ ks : List (Key × D), (mapFK g ks).map (·.1) = ks.map (·.1)
  | [] => rfl
  | (k, d) :: r => by rw [mapFK, List.map_cons, List.map_cons, mapFK_keys g r]
theorem mapFT_keys (g : Fl → Fl) : ∀ ks : List (List Key × D), (mapFT g ks).map (·.1) = ks.map (·.1)
  | [] => rfl
  | (k, d) :: r => by rw [mapFT, List.map_cons, List.map_cons, mapFT_keys g r]
/-- the marks are changed to such as own nothing -/
theorem Rp.remark {z z' : Zo} {H : Hp} {g : Sg} {A : List Addr} {m : Fl → Fl} {P : Fl → Bool} (h : Rp z H g A) (kK : z'.K = z.K) (kg : z'.gm = z.gm) (hP : allS P g = true)
    (hm : ∀ (f : Fl) (a : Addr), P f = true → FlOk z a f → (∃ u, Rd H a u) → (∀ b ∈ FlA f a, b ∈ A) → FlA (m f) a = [] ∧ FlOk z' a (m f)) : Rp z' H (mapS m g) [] := by
  have at' : ∀ {f : Fl} {a : Addr} {u : HO}, At H f a u → FlA (m f) a = [] → At H (m f) a u := fun {f a u} h e => by
    have r := h.rd
    generalize m f = q at e
    cases q with
    | own => cases e
    | lk => cases e
    | fr => exact r
    | sh => exact r
    | ro => exact r
  induction h with
  | non => exact .non
  | bl b => exact .bl b
  | int i => exact .int i
  | str x => exact .str x
  | ty n => exact .ty n
  | fn e => exact .fn (by rw [kg]; exact e)
  | tup t _ ih => exact .tup (by rw [kK]; exact t.mapL m) (ih hP hm)
  | @lst f a xs ds B at0 o _ ih =>
    simp only [allS, allF, Bool.and_eq_true] at hP
    obtain ⟨e1, e2⟩ := hm f a hP.1 o ⟨_, at0.rd⟩ fun b hb => List.mem_append_left _ hb
    have := Rp.lst (z := z') (H := H) (f := m f) (at' at0 e1) e2 (ih hP.2 fun f a q0 o r q => hm f a q0 o r fun b hb => List.mem_append_right _ (q b hb))
    rw [e1] at this; exact this
  | @dk f a xs ds B at0 o n _ ih =>
    simp only [allS, allF, Bool.and_eq_true] at hP
    obtain ⟨e1, e2⟩ := hm f a hP.1 o ⟨_, at0.rd⟩ fun b hb => List.mem_append_left _ hb
    have := Rp.dk (z := z') (H := H) (f := m f) (at' at0 e1) e2 (by rw [mapFK_keys]; exact n) (ih hP.2 fun f a q0 o r q => hm f a q0 o r fun b hb => List.mem_append_right _ (q b hb))
    rw [e1] at this; exact this
  | @dt f a xs ds B at0 o n _ ih =>
    simp only [allS, allF, Bool.and_eq_true] at hP
    obtain ⟨e1, e2⟩ := hm f a hP.1 o ⟨_, at0.rd⟩ fun b hb => List.mem_append_left _ hb
    have := Rp.dt (z := z') (H := H) (f := m f) (at' at0 e1) e2 (by rw [mapFT_keys]; exact n) (ih hP.2 fun f a q0 o r q => hm f a q0 o r fun b hb => List.mem_append_right _ (q b hb))
    rw [e1] at this; exact this
  | @ins f a C dx c fs es B at0 o e _ ih =>
    simp only [allS, allF, Bool.and_eq_true] at hP
    obtain ⟨e1, e2⟩ := hm f a hP.1 o ⟨_, at0.rd⟩ fun b hb => List.mem_append_left _ hb
    have := Rp.ins (z := z') (H := H) (f := m f) (at' at0 e1) e2 (by rw [kg]; exact e) (ih hP.2 fun f a q0 o r q => hm f a q0 o r fun b hb => List.mem_append_right _ (q b hb))
    rw [e1] at this; exact this
  | @kd f a kvs e at0 o =>
    obtain ⟨e1, e2⟩ := hm f a hP o ⟨_, at0⟩ fun b hb => by rw [e] at hb; cases hb
    refine Rp.kd (z := z') (H := H) (f := m f) (fun b => ?_) at0 e2
    revert e1
    cases m f <;> intro e1 <;> first | rfl | cases e1
  | @exc f a C dd c fs es B e at0 o x q _ ih =>
    simp only [allS, allF, Bool.and_eq_true] at hP
    obtain ⟨e1, e2⟩ := hm f a hP.1 o ⟨_, at0⟩ fun b hb => by rw [e] at hb; cases hb
    refine Rp.exc (z := z') (H := H) (f := m f) (fun b => ?_) at0 e2 ?_ (by rw [kg]; exact q) (ih hP.2 fun f a q0 o r q => hm f a q0 o r q)
    · revert e1
      cases m f <;> intro e1 <;> first | rfl | cases e1
    · cases dd with
      | none => exact x
      | some dd => exact ⟨x.1, (hm f dd hP.1 x.2 ⟨_, x.1⟩ fun b hb => by rw [e] at hb; cases hb).2⟩
  | nil => exact .nil
  | @cons v d vs ds A B _ _ i1 i2 =>
    simp only [allS, allFL, Bool.and_eq_true] at hP
    exact Rp.cons (A := []) (B := []) (i1 hP.1 fun f a q0 o r q => hm f a q0 o r fun b hb => List.mem_append_left _ (q b hb)) (i2 hP.2 fun f a q0 o r q => hm f a q0 o r fun b hb => List.mem_append_right _ (q b hb))
  | knil => exact .knil
  | @kcons k v d vs ds A B _ _ i1 i2 =>
    simp only [allS, allFK, Bool.and_eq_true] at hP
    exact Rp.kcons (A := []) (B := []) (i1 hP.1 fun f a q0 o r q => hm f a q0 o r fun b hb => List.mem_append_left _ (q b hb)) (i2 hP.2 fun f a q0 o r q => hm f a q0 o r fun b hb => List.mem_append_right _ (q b hb))
  | tnil => exact .tnil
  | @tcons k v d vs ds A B _ _ i1 i2 =>
    simp only [allS, allFT, Bool.and_eq_true] at hP
    exact Rp.tcons (A := []) (B := []) (i1 hP.1 fun f a q0 o r q => hm f a q0 o r fun b hb => List.mem_append_left _ (q b hb)) (i2 hP.2 fun f a q0 o r q => hm f a q0 o r fun b hb => List.mem_append_right _ (q b hb))
  | snil => exact .snil
  | @scons k v d vs ds A B _ _ i1 i2 =>
    simp only [allS, allFS, Bool.and_eq_true] at hP
    exact Rp.scons (A := []) (B := []) (i1 hP.1 fun f a q0 o r q => hm f a q0 o r fun b hb => List.mem_append_left _ (q b hb)) (i2 hP.2 fun f a q0 o r q => hm f a q0 o r fun b hb => List.mem_append_right _ (q b hb))
mutual
theorem allF_true : ∀ d : D, allF (fun _ => true) d = true
  | .non => rfl | .bl _ => rfl | .int _ => rfl | .str _ => rfl
  | .tup ds => allFL_true ds
  | .lst _ ds => by rw [allF, allFL_true ds]; rfl
  | .dk _ ks => by rw [allF, allFK_true ks]; rfl
  | .dt _ ks => by rw [allF, allFT_true ks]; rfl
  | .ins _ _ fs => by rw [allF, allFS_true fs]; rfl
  | .exc _ _ fs => by rw [allF, allFS_true fs]; rfl
  | .fn _ => rfl
  | .ty _ => rfl
  | .kd _ _ => rfl
theorem allFL_true : ∀ ds : List D, allFL (fun _ => true) ds = true
  | [] => rfl
  | d :: r => by rw [allFL, allF_true d, allFL_true r]; rfl
theorem allFK_true : ∀ ds : List (Key × D), allFK (fun _ => true) ds = true
  | [] => rfl
  | (_, d) :: r => by rw [allFK, allF_true d, allFK_true r]; rfl
theorem allFT_true : ∀ ds : List (List Key × D), allFT (fun _ => true) ds = true
  | [] => rfl
  | (_, d) :: r => by rw [allFT, allF_true d, allFT_true r]; rfl
theorem allFS_true : ∀ ds : List (Str × D), allFS (fun _ => true) ds = true
  | [] => rfl
  | (_, d) :: r => by rw [allFS, allF_true d, allFS_true r]; rfl
end
/-- everything that stands is read -/
def zW (K : PySem.W.Frag) (gm : Str → Option Value) (H : Hp) : Zo := ⟨K, gm, fun _ => False, fun a => ∃ o, H a = some o, H, []⟩
theorem rd_dom {H : Hp} {a : Addr} {u : HO} (h : Rd H a u) : ∃ o, H a = some o := by
  rcases h with h | ⟨o, h⟩ <;> exact ⟨_, h⟩
theorem Rp.lend {z : Zo} {H : Hp} {v : V} {d : D} {A : List Addr} (h : Rp z H (.v v d) A) : Rp (zW z.K z.gm H) H (.v v (lend d)) [] :=
  Rp.remark (m := fun _ => .ro) (P := fun _ => true) h rfl rfl (allF_true d) fun f a _ _ r _ => ⟨rfl, let ⟨_, r⟩ := r; rd_dom r⟩
/-- lent things stay lent -/
theorem Rp.wmono {K : PySem.W.Frag} {gm : Str → Option Value} {H H' : Hp} {g : Sg} {A : List Addr} (h : Rp (zW K gm H) H g A) (hA : A = []) (k : ∀ a u, Rd H a u → Rd H' a u) : Rp (zW K gm H') H' g A := by
  have kd : ∀ a, (∃ o, H a = some o) → ∃ o, H' a = some o := fun a ⟨o, e⟩ => rd_dom (k a o (.inl e))
  refine Rp.mono h ⟨rfl, rfl, fun _ h => h, kd, fun _ h => h.elim, rfl⟩ (.of k) fun a ha => ?_
  subst hA; cases ha
/-- what owns nothing, in another zone -/
theorem Rp.ofImm {z z' : Zo} {H : Hp} {g : Sg} {A : List Addr} (h : Rp z H g A) (kK : z'.K = z.K) (kg : z'.gm = z.gm) (hi : allS (fun _ => false) g = true) : Rp z' H g A ∧ A = [] := by
  induction h with
  | non => exact ⟨.non, rfl⟩
  | bl b => exact ⟨.bl b, rfl⟩
  | int i => exact ⟨.int i, rfl⟩
  | str x => exact ⟨.str x, rfl⟩
  | ty n => exact ⟨.ty n, rfl⟩
  | fn e => exact ⟨.fn (by rw [kg]; exact e), rfl⟩
  | tup t _ ih => exact ⟨.tup (by rw [kK]; exact t) (ih hi).1, (ih hi).2⟩
  | lst => simp [allS, allF] at hi
  | dk => simp [allS, allF] at hi
  | dt => simp [allS, allF] at hi
  | ins => simp [allS, allF] at hi
  | exc => simp [allS, allF] at hi
  | kd => simp [allS, allF] at hi
  | nil => exact ⟨.nil, rfl⟩
  | cons _ _ i1 i2 =>
    simp only [allS, allFL, Bool.and_eq_true] at hi
    exact ⟨.cons (i1 hi.1).1 (i2 hi.2).1, by rw [(i1 hi.1).2, (i2 hi.2).2]; rfl⟩
  | knil => exact ⟨.knil, rfl⟩
  | kcons _ _ i1 i2 =>
    simp only [allS, allFK, Bool.and_eq_true] at hi
    exact ⟨.kcons (i1 hi.1).1 (i2 hi.2).1, by rw [(i1 hi.1).2, (i2 hi.2).2]; rfl⟩
  | tnil => exact ⟨.tnil, rfl⟩
  | tcons _ _ i1 i2 =>
    simp only [allS, allFT, Bool.and_eq_true] at hi
    exact ⟨.tcons (i1 hi.1).1 (i2 hi.2).1, by rw [(i1 hi.1).2, (i2 hi.2).2]; rfl⟩
  | snil => exact ⟨.snil, rfl⟩
  | scons _ _ i1 i2 =>
    simp only [allS, allFS, Bool.and_eq_true] at hi
    exact ⟨.scons (i1 hi.1).1 (i2 hi.2).1, by rw [(i1 hi.1).2, (i2 hi.2).2]; rfl⟩
/-- what is its own stands in the heap -/
theorem Rp.dom {z : Zo} {H : Hp} {g : Sg} {A : List Addr} (h : Rp z H g A) : ∀ a ∈ A, ∃ u, H a = some u ∧ Mut (some u) := by
  have q : ∀ {f : Fl} {a : Addr} {u : HO}, At H f a u → Mut (some u) → ∀ b ∈ FlA f a, ∃ u, H b = some u ∧ Mut (some u) := fun {f a u} h m b hb => by
    cases f with
    | own =>
      have e : b = a := by simpa [FlA] using hb
      subst e; exact ⟨u, h, m⟩
    | lk =>
      have e : b = a := by simpa [FlA] using hb
      subst e; exact ⟨u, h, m⟩
    | fr => cases hb
    | sh => cases hb
    | ro => cases hb
  induction h with
  | lst a o _ ih => exact fun b hb => (List.mem_append.mp hb).elim (q a trivial b) (ih b)
  | dk a o n _ ih => exact fun b hb => (List.mem_append.mp hb).elim (q a trivial b) (ih b)
  | dt a o n _ ih => exact fun b hb => (List.mem_append.mp hb).elim (q a trivial b) (ih b)
  | ins a o e _ ih => exact fun b hb => (List.mem_append.mp hb).elim (q a trivial b) (ih b)
  | tup _ _ ih => exact ih
  | exc _ _ _ _ _ _ ih => exact ih
  | cons _ _ i1 i2 => exact fun b hb => (List.mem_append.mp hb).elim (i1 b) (i2 b)
  | kcons _ _ i1 i2 => exact fun b hb => (List.mem_append.mp hb).elim (i1 b) (i2 b)
  | tcons _ _ i1 i2 => exact fun b hb => (List.mem_append.mp hb).elim (i1 b) (i2 b)
  | scons _ _ i1 i2 => exact fun b hb => (List.mem_append.mp hb).elim (i1 b) (i2 b)
  | _ => exact fun b hb => by cases hb
end DG

set_option Elab.async false
set_option linter.all false
set_option maxHeartbeats 4000000
/-! DGb: the slots of a frame, pending values, locks: Gd, what holds between two steps. -/
namespace DG
open PySem PySem.Spec PyProof.Rows L2
set_option autoImplicit false
/-! ### locks, and what is hidden -/
/-- lo: dicts that are locked while a loop walks them; hd: objects that are known to be as they are and are none of what goes on -/
structure Lk where
  lo : List (Addr × Obj)
  hd : List (Addr × HO)
def lockO : Option HO → Option Obj → Option HO
  | some u, some od => some (.frz od u)
  | g, _ => g
def lockAll (L : Lk) (G : Hp) : Hp := fun a => match L.hd.lookup a with
  | some o => some o
  | none => lockO (G a) (L.lo.lookup a)
/-- what may be locked -/
def Lkb : HO → Prop
  | .lst _ => True | .dK _ => True | .dT _ => True | _ => False
theorem Lkb.mut {u : HO} (h : Lkb u) : Mut (some u) := by cases u <;> first | trivial | exact h.elim
structure LkOk (L : Lk) (G : Hp) : Prop where
  lo : ∀ a od, L.lo.lookup a = some od → ∃ u, G a = some u ∧ Lkb u
  hd : ∀ a o, L.hd.lookup a = some o → G a = none ∧ Mut (some o)
theorem lockAll_nil (G : Hp) : lockAll ⟨[], []⟩ G = G := by
  funext a; show lockO (G a) none = G a; cases G a <;> rfl
section
variable {L : Lk} {G : Hp} {a : Addr}
theorem LkOk.nohd (k : LkOk L G) {u : HO} (h : G a = some u) : L.hd.lookup a = none := by
  cases q : L.hd.lookup a with
  | none => rfl
  | some o => rw [(k.hd a o q).1] at h; cases h
theorem lockAll_eq (h : L.hd.lookup a = none) : lockAll L G a = lockO (G a) (L.lo.lookup a) := by unfold lockAll; rw [h]
theorem lockAll_hd {o : HO} (h : L.hd.lookup a = some o) : lockAll L G a = some o := by unfold lockAll; rw [h]
theorem lockAll_free (k : LkOk L G) {u : HO} (h : L.lo.lookup a = none) (g : G a = some u) : lockAll L G a = some u := by
  rw [lockAll_eq (k.nohd g), h, g]; rfl
theorem lockAll_none (h : lockAll L G a = none) : L.hd.lookup a = none ∧ G a = none := by
  cases q : L.hd.lookup a with
  | some o => rw [lockAll_hd q] at h; cases h
  | none =>
    rw [lockAll_eq q] at h
    refine ⟨rfl, ?_⟩
    revert h
    cases G a <;> cases L.lo.lookup a <;> simp [lockO]
theorem lockAll_at (k : LkOk L G) {od : Obj} {u : HO} (h : L.lo.lookup a = some od) (g : G a = some u) : lockAll L G a = some (.frz od u) := by
  rw [lockAll_eq (k.nohd g), h, g]; rfl
theorem lockAll_upd {p : Addr} {o : HO} (h : L.lo.lookup p = none) (h' : L.hd.lookup p = none) : upd (lockAll L G) p o = lockAll L (upd G p o) := by
  funext a
  by_cases e : a = p
  · subst e; rw [upd_same, lockAll_eq h', h, upd_same]; rfl
  · rw [upd_ne e]
    unfold lockAll
    rw [upd_ne e]
theorem lockAll_cons (k : LkOk L G) {d : Addr} {od : Obj} {u : HO} (h : L.lo.lookup d = none) (g : G d = some u) : lockAll ⟨(d, od) :: L.lo, L.hd⟩ G = upd (lockAll L G) d (.frz od u) := by
  funext a
  by_cases e : a = d
  · subst e
    rw [upd_same]
    unfold lockAll
    rw [show (Lk.mk ((a, od) :: L.lo) L.hd).hd.lookup a = none from k.nohd g, g, show (Lk.mk ((a, od) :: L.lo) L.hd).lo.lookup a = some od by simp]
    rfl
  · rw [upd_ne e]
    unfold lockAll
    show (match L.hd.lookup a with | some o => some o | none => lockO (G a) (((d, od) :: L.lo).lookup a)) = _
    rw [List.lookup_cons, beq_false_of_ne e]
/-- one more thing is hidden -/
theorem lockAll_hide {d : Addr} {o : HO} : lockAll ⟨L.lo, (d, o) :: L.hd⟩ G = upd (lockAll L G) d o := by
  funext a
  by_cases e : a = d
  · subst e; rw [upd_same]; exact lockAll_hd (by simp)
  · rw [upd_ne e]
    unfold lockAll
    show (match ((d, o) :: L.hd).lookup a with | some o => some o | none => _) = _
    rw [List.lookup_cons, beq_false_of_ne e]
theorem lockAll_rd (k : LkOk L G) {u : HO} (h : Rd G a u) : Rd (lockAll L G) a u := by
  have hn : L.hd.lookup a = none := by
    rcases h with h | ⟨o, h⟩
    · exact k.nohd h
    · exact k.nohd h
  cases q : L.lo.lookup a with
  | none =>
    rcases h with h | ⟨o, h⟩
    · exact .inl (lockAll_free k q h)
    · exact .inr ⟨o, lockAll_free k q h⟩
  | some od =>
    obtain ⟨x, hx, mx⟩ := k.lo a od q
    rcases h with h | ⟨o, h⟩
    · exact .inr ⟨od, lockAll_at k q h⟩
    · rw [h] at hx; cases hx; exact mx.elim
end

/-! ### places -/
section
variable {κ α : Type} [DecidableEq κ]
def getA : List (κ × α) → κ → Option α
  | [], _ => none
  | (k', a) :: r, k => if k' = k then some a else getA r k
end
inductive Stp where
  | fld (f : Str) | key (k : Key) | kt (k : List Key) | ix (n : Nat)
abbrev Pth := List Stp
/-- the value behind a step, a path -/
def VS (H : Hp) (v : V) : Stp → V → Prop
  | .fld f, x => ∃ a, v = .ref a ∧ ((∃ C dx fs, Rd H a (.ins C dx fs) ∧ getA fs f = some x) ∨ ∃ C dd fs, Rd H a (.ext (ExcP a C (some dd))) ∧ Rd H dd (.xd fs) ∧ getA fs f = some x)
  | .key k, x => ∃ a ks, v = .ref a ∧ Rd H a (.dK ks) ∧ getA ks k = some x
  | .kt k, x => ∃ a ks, v = .ref a ∧ Rd H a (.dT ks) ∧ getA ks k = some x
  | .ix n, x => ∃ a xs, v = .ref a ∧ (Rd H a (.lst xs) ∨ Rd H a (.tup xs)) ∧ xs[n]? = some x
def VP (H : Hp) : V → Pth → V → Prop
  | v, [], x => x = v
  | v, s :: r, x => ∃ y, VS H v s y ∧ VP H y r x
theorem VS.mono {H H' : Hp} (k : ∀ a u, Rd H a u → Rd H' a u) {v x : V} {s : Stp} (h : VS H v s x) : VS H' v s x := by
  cases s with
  | fld f =>
    obtain ⟨a, e, h⟩ := h
    exact ⟨a, e, h.elim (fun ⟨C, dx, fs, r, q⟩ => .inl ⟨C, dx, fs, k _ _ r, q⟩) fun ⟨C, dd, fs, r, r2, q⟩ => .inr ⟨C, dd, fs, k _ _ r, k _ _ r2, q⟩⟩
  | key f => obtain ⟨a, fs, e, r, q⟩ := h; exact ⟨a, fs, e, k _ _ r, q⟩
  | kt f => obtain ⟨a, fs, e, r, q⟩ := h; exact ⟨a, fs, e, k _ _ r, q⟩
  | ix n => obtain ⟨a, xs, e, r, q⟩ := h; exact ⟨a, xs, e, r.elim (fun z => .inl (k _ _ z)) (fun z => .inr (k _ _ z)), q⟩
theorem VP.mono {H H' : Hp} (k : ∀ a u, Rd H a u → Rd H' a u) : ∀ {π : Pth} {v x : V}, VP H v π x → VP H' v π x
  | [], _, _, h => h
  | _ :: _, _, _, ⟨y, h1, h2⟩ => ⟨y, h1.mono k, VP.mono k h2⟩
/-- what stands at the place (i, π) -/
def PlV (σ : L2.St) (H : Hp) (i : Nat) (π : Pth) (x : V) : Prop := ∃ v, σ[i]? = some (some v) ∧ VP H v π x
/-- a pending value that is only read; a pending place -/
inductive Wk where
  | v (v : V) (d : D)
  | p (i : Nat) (π : Pth) (x : V)
def Wk.imm : Wk → Bool
  | .v _ d => DG.imm d
  | .p _ _ _ => false
def WkOk (K : PySem.W.Frag) (gm : Str → Option Value) (nl : List Nat) (σ : L2.St) (G : Hp) : Wk → Prop
  | .v v d => Rp (zW K gm G) G (.v v d) []
  | .p i π x => i ∈ nl ∧ PlV σ G i π x
theorem PlV.mono {σ : L2.St} {H H' : Hp} {i : Nat} {π : Pth} {x : V} (h : PlV σ H i π x) (k : ∀ a u, Rd H a u → Rd H' a u) : PlV σ H' i π x := let ⟨v, h1, h2⟩ := h; ⟨v, h1, h2.mono k⟩
theorem WkOk.mono {K : PySem.W.Frag} {gm : Str → Option Value} {nl : List Nat} {σ : L2.St} {H H' : Hp} {w : Wk} (h : WkOk K gm nl σ H w) (k : ∀ a u, Rd H a u → Rd H' a u) : WkOk K gm nl σ H' w := by
  cases w with
  | v v d => exact Rp.wmono h rfl k
  | p i π x => exact ⟨h.1, h.2.mono k⟩
theorem WkOk.slots {K : PySem.W.Frag} {gm : Str → Option Value} {nl : List Nat} {σ σ' : L2.St} {H : Hp} {w : Wk} (h : WkOk K gm nl σ H w) (k : ∀ i, i ∈ nl → σ'[i]? = σ[i]?) : WkOk K gm nl σ' H w := by
  cases w with
  | v v d => exact h
  | p i π x => obtain ⟨h1, v, h2, h3⟩ := h; exact ⟨h1, v, by rw [k i h1]; exact h2, h3⟩
/-! ### slots, pending values -/
inductive RpE (z : Zo) (H : Hp) : List (Option V) → List (Option D) → List Addr → Prop
  | nil : RpE z H [] [] []
  | skip {x : Option V} {σ : List (Option V)} {e : List (Option D)} {A : List Addr} : RpE z H σ e A → RpE z H (x :: σ) (none :: e) A
  | cons {v : V} {d : D} {σ : List (Option V)} {e : List (Option D)} {A B : List Addr} : Rp z H (.v v d) A → RpE z H σ e B → RpE z H (some v :: σ) (some d :: e) (A ++ B)
inductive RpS (z : Zo) (H : Hp) : List (V × D) → List Addr → Prop
  | nil : RpS z H [] []
  | cons {p : V × D} {st : List (V × D)} {A B : List Addr} : Rp z H (.v p.1 p.2) A → RpS z H st B → RpS z H (p :: st) (A ++ B)
section
variable {z z' : Zo} {H H' : Hp} {σ : List (Option V)} {e : List (Option D)} {A B : List Addr} {st : List (V × D)}
theorem RpE.mono (h : RpE z H σ e A) (k : ZLe z z') (kh : HLe z H H') (kA : ∀ a ∈ A, H' a = H a) : RpE z' H' σ e A := by
  induction h with
  | nil => exact .nil
  | skip _ ih => exact .skip (ih kA)
  | cons r _ ih => exact .cons (r.mono k kh fun b hb => kA b (List.mem_append_left _ hb)) (ih fun b hb => kA b (List.mem_append_right _ hb))
theorem RpS.mono (h : RpS z H st A) (k : ZLe z z') (kh : HLe z H H') (kA : ∀ a ∈ A, H' a = H a) : RpS z' H' st A := by
  induction h with
  | nil => exact .nil
  | cons r _ ih => exact .cons (r.mono k kh fun b hb => kA b (List.mem_append_left _ hb)) (ih fun b hb => kA b (List.mem_append_right _ hb))
theorem RpE.len (h : RpE z H σ e A) : σ.length = e.length := by
  induction h with
  | nil => rfl
  | skip _ ih => simp [ih]
  | cons _ _ ih => simp [ih]
theorem RpE.dom (h : RpE z H σ e A) : ∀ a ∈ A, ∃ u, H a = some u ∧ Mut (some u) := by
  induction h with
  | nil => exact fun b hb => by cases hb
  | skip _ ih => exact ih
  | cons r _ ih => exact fun b hb => (List.mem_append.mp hb).elim (r.dom b) (ih b)
theorem RpS.dom (h : RpS z H st A) : ∀ a ∈ A, ∃ u, H a = some u ∧ Mut (some u) := by
  induction h with
  | nil => exact fun b hb => by cases hb
  | cons r _ ih => exact fun b hb => (List.mem_append.mp hb).elim (r.dom b) (ih b)
/-- one slot apart -/
theorem RpE.split (h : RpE z H σ e A) : ∀ {i : Nat} {d : D}, e[i]? = some (some d) → ∃ v A1 A2, σ[i]? = some (some v) ∧ Rp z H (.v v d) A1 ∧ A.Perm (A1 ++ A2) ∧ RpE z H σ (e.set i none) A2 := by
  induction h with
  | nil => intro i d q; simp at q
  | @skip x σ e A r ih =>
    intro i d q
    cases i with
    | zero => simp at q
    | succ i =>
      obtain ⟨v, A1, A2, h1, h2, h3, h4⟩ := ih (i := i) (by simpa using q)
      exact ⟨v, A1, A2, by simpa using h1, h2, h3, .skip h4⟩
  | @cons v d σ e A B r rr ih =>
    intro i d' q
    cases i with
    | zero =>
      have : d = d' := by simpa using q
      subst this
      exact ⟨v, A, B, rfl, r, .refl _, .skip rr⟩
    | succ i =>
      obtain ⟨v', A1, A2, h1, h2, h3, h4⟩ := ih (i := i) (by simpa using q)
      refine ⟨v', A1, A ++ A2, by simpa using h1, h2, ?_, .cons r h4⟩
      refine (List.Perm.append_left A h3).trans ?_
      rw [← List.append_assoc, ← List.append_assoc]
      exact List.Perm.append_right _ List.perm_append_comm
theorem RpE.put (h : RpE z H σ e A) : ∀ {i : Nat} {v : V} {d : D} {B : List Addr}, e[i]? = some none → Rp z H (.v v d) B → ∃ A', RpE z H (σ.set i (some v)) (e.set i (some d)) A' ∧ A'.Perm (B ++ A) := by
  induction h with
  | nil => intro i v d B q; simp at q
  | @skip x σ e A r ih =>
    intro i v d B q rv
    cases i with
    | zero => exact ⟨B ++ A, .cons rv r, .refl _⟩
    | succ i =>
      obtain ⟨A', h1, h2⟩ := ih (i := i) (by simpa using q) rv
      exact ⟨A', .skip h1, h2⟩
  | @cons v0 d0 σ e A B0 r rr ih =>
    intro i v d B q rv
    cases i with
    | zero => simp at q
    | succ i =>
      obtain ⟨A', h1, h2⟩ := ih (i := i) (by simpa using q) rv
      refine ⟨A ++ A', .cons r h1, (List.Perm.append_left A h2).trans ?_⟩
      rw [← List.append_assoc, ← List.append_assoc]
      exact List.Perm.append_right _ List.perm_append_comm
theorem RpE.setSlot (h : RpE z H σ e A) : ∀ {i : Nat} (x : Option V), e[i]? = some none → RpE z H (σ.set i x) e A := by
  induction h with
  | nil => intro i x q; simp at q
  | @skip y σ e A r ih =>
    intro i x q
    cases i with
    | zero => exact .skip r
    | succ i => exact .skip (ih (i := i) x (by simpa using q))
  | @cons v0 d0 σ e A B0 r rr ih =>
    intro i x q
    cases i with
    | zero => simp at q
    | succ i => exact .cons r (ih (i := i) x (by simpa using q))
theorem RpE.kill (h : RpE z H σ e A) (i : Nat) : ∃ A2, RpE z H σ (e.set i none) A2 ∧ ∃ A1, A.Perm (A1 ++ A2) := by
  cases q : e[i]? with
  | none => exact ⟨A, by rw [List.set_eq_of_length_le (List.getElem?_eq_none_iff.mp q)]; exact h, [], .refl _⟩
  | some x =>
    cases x with
    | none =>
      refine ⟨A, ?_, [], .refl _⟩
      have : e.set i none = e := by
        apply List.ext_getElem?
        intro j
        by_cases hj : j = i
        · subst hj
          rw [List.getElem?_set_self (List.getElem?_eq_some_iff.mp q).1, q]
        · rw [List.getElem?_set_ne (Ne.symm hj)]
      rw [this]; exact h
    | some d =>
      obtain ⟨v, A1, A2, _, _, h3, h4⟩ := h.split q
      exact ⟨A2, h4, A1, h3⟩
theorem RpS.perm {st' : List (V × D)} (p : st.Perm st') : ∀ {A : List Addr}, RpS z H st A → ∃ A', RpS z H st' A' ∧ A.Perm A' := by
  induction p with
  | nil => exact fun h => ⟨_, h, .refl _⟩
  | cons x _ ih =>
    intro A h
    cases h with
    | @cons _ _ A1 B1 r rr =>
      obtain ⟨A', h1, h2⟩ := ih rr
      exact ⟨A1 ++ A', .cons r h1, List.Perm.append_left _ h2⟩
  | swap x y l =>
    intro A h
    cases h with
    | @cons _ _ A1 B1 r rr =>
      cases rr with
      | @cons _ _ A2 B2 r2 rr2 =>
        refine ⟨A2 ++ (A1 ++ B2), .cons r2 (.cons r rr2), ?_⟩
        rw [← List.append_assoc, ← List.append_assoc]
        exact List.Perm.append_right _ List.perm_append_comm
  | trans _ _ i1 i2 =>
    intro A h
    obtain ⟨A', h1, h2⟩ := i1 h
    obtain ⟨A'', h3, h4⟩ := i2 h1
    exact ⟨A'', h3, h2.trans h4⟩
theorem RpS.append {st' : List (V × D)} (h : RpS z H st A) (h' : RpS z H st' B) : RpS z H (st ++ st') (A ++ B) := by
  induction h with
  | nil => exact h'
  | cons r _ ih => rw [List.append_assoc]; exact .cons r ih
theorem RpS.unappend {st' : List (V × D)} : ∀ {st : List (V × D)} {A : List Addr}, RpS z H (st ++ st') A → ∃ A1 A2, RpS z H st A1 ∧ RpS z H st' A2 ∧ A = A1 ++ A2
  | [], A, h => ⟨[], A, .nil, h, rfl⟩
  | p :: st, A, h => by
    cases h with
    | @cons _ _ A1 B1 r rr =>
      obtain ⟨C1, C2, h1, h2, rfl⟩ := RpS.unappend rr
      exact ⟨A1 ++ C1, C2, .cons r h1, h2, by rw [List.append_assoc]⟩
end
/-! ### what holds between two steps -/
/-- the written part, the module's names -/
structure Kx where
  K : PySem.W.Frag
  mg : Str → Option Value
abbrev kx (X : Cx) : Kx := ⟨X.K, X.mg⟩
instance : Coe Cx Kx := ⟨kx⟩
structure Par where
  H0 : Hp
  S0 : Addr → Prop
  R0 : Addr → Prop
  O : List Addr
  io : Option V
  nl : List Nat
structure Par.Ok (p : Par) : Prop where
  sr : ∀ a, p.S0 a → p.R0 a
  rd : ∀ a, p.R0 a → (∃ o, p.H0 a = some o) ∧ a ∉ p.O
  od : ∀ a ∈ p.O, ∃ u, p.H0 a = some u ∧ Mut (some u)
  ft : ∀ a x u, p.H0 a = some (.frz x u) → Lkb u
abbrev zo (X : Kx) (p : Par) (S : Addr → Prop) (lk : List Addr) : Zo := ⟨X.K, X.mg, S, p.R0, p.H0, lk⟩
abbrev Env := List (Option D)
abbrev Stk := List (V × D)
structure GdB (X : Kx) (p : Par) (lk : List Addr) (L : Lk) (σ : L2.St) (H : Hp) (e : Env) (st : Stk) (ws : List Wk) (S : Addr → Prop) (G : Hp) (A B : List Addr) : Prop where
  ok : p.Ok
  hL : H = lockAll L G
  lkd : LkOk L G
  lkz : ∀ a od, L.lo.lookup a = some od → S a ∨ p.R0 a ∨ a ∈ lk
  lke : ∀ a ∈ lk, ∃ o, G a = some o
  env : RpE (zo X p S lk) G σ e A
  stk : RpS (zo X p S lk) G st B
  wk : ∀ w ∈ ws, WkOk X.K X.mg p.nl σ G w
  nd : (A ++ B).Nodup
  dj : ∀ a ∈ A ++ B, ¬ S a ∧ ¬ p.R0 a
  ow : ∀ a ∈ A ++ B, p.H0 a = none ∨ a ∈ p.O
  s0 : ∀ a, p.S0 a → S a
  sd : ∀ a, S a → (p.S0 a ∨ p.H0 a = none ∨ a ∈ p.O) ∧ ∃ o, G a = some o
  fr : ∀ a o, p.H0 a = some o → a ∉ p.O → G a = some o
  oo : ∀ a ∈ p.O, ∃ o, G a = some o
  pin : ∀ v, p.io = some v → σ[0]? = some (some v)
  nf : ∀ a, p.H0 a = none ∨ a ∈ p.O → ∀ x u, G a ≠ some (.frz x u)
def Gd (X : Kx) (p : Par) (lk : List Addr) (L : Lk) (σ : L2.St) (H : Hp) (e : Env) (st : Stk) (ws : List Wk) : Prop := ∃ S G A B, GdB X p lk L σ H e st ws S G A B
section
variable {X : Kx} {p : Par} {lk : List Addr} {L : Lk} {σ : L2.St} {H : Hp} {e : Env} {st : Stk} {ws : List Wk}
/-- what is locked -/
theorem Gd.nfl (g : Gd X p lk L σ H e st ws) (a : Addr) (x : Obj) (w : HO) (h : H a = some (.frz x w)) : Lkb w := by
  obtain ⟨S, G, A, B, g⟩ := g
  rw [g.hL] at h
  cases q : L.hd.lookup a with
  | some o => rw [lockAll_hd q] at h; have m := (g.lkd.hd a o q).2; cases h; exact m.elim
  | none =>
    cases q2 : L.lo.lookup a with
    | some od =>
      obtain ⟨u, h1, h2⟩ := g.lkd.lo a od q2
      rw [lockAll_at g.lkd q2 h1] at h
      cases h
      exact h2
    | none =>
      rw [lockAll_eq q, q2] at h
      have hG : G a = some (.frz x w) := by
        cases z : G a with
        | none => rw [z] at h; cases h
        | some o => rw [z] at h; exact h
      cases z : p.H0 a with
      | none => exact absurd hG (g.nf a (.inl z) _ _)
      | some o =>
        by_cases hO : a ∈ p.O
        · exact absurd hG (g.nf a (.inr hO) _ _)
        · rw [g.fr a o z hO] at hG; cases hG; exact g.ok.ft a _ _ z
/-- no tuple is locked -/
theorem Gd.nft (g : Gd X p lk L σ H e st ws) (a : Addr) (x : Obj) (xs : List V) : H a ≠ some (.frz x (.tup xs)) := fun h => g.nfl a x _ h
theorem Gd.ins (g : Gd X p lk L σ H e st ws) {a C dx : Addr} {fs : List (Str × V)} (h : Rd H a (.ins C dx fs)) : H a = some (.ins C dx fs) := by
  rcases h with h | ⟨x, h⟩
  · exact h
  · exact (g.nfl a x _ h).elim
theorem Gd.tup (g : Gd X p lk L σ H e st ws) {a : Addr} {xs : List V} (h : Rd H a (.tup xs)) : H a = some (.tup xs) := by
  rcases h with h | ⟨x, h⟩
  · exact h
  · exact absurd h (g.nft a x xs)
/-- fewer pending values, owned things let go -/
theorem GdB.less {S : Addr → Prop} {G : Hp} {A B A' B' : List Addr} {σ' : L2.St} {e' : Env} {st' : Stk} {ws' : List Wk} (g : GdB X p lk L σ H e st ws S G A B) (env : RpE (zo X p S lk) G σ' e' A') (stk : RpS (zo X p S lk) G st' B')
    (wk : ∀ w ∈ ws', WkOk X.K X.mg p.nl σ' G w) (hs : ∃ C, (A ++ B).Perm (C ++ (A' ++ B'))) (pin : ∀ v, p.io = some v → σ'[0]? = some (some v)) : GdB X p lk L σ' H e' st' ws' S G A' B' := by
  obtain ⟨C, hp⟩ := hs
  have sub : ∀ a ∈ A' ++ B', a ∈ A ++ B := fun a ha => hp.mem_iff.mpr (List.mem_append_right _ ha)
  exact ⟨g.ok, g.hL, g.lkd, g.lkz, g.lke, env, stk, wk, (List.nodup_append.mp (hp.nodup_iff.mp g.nd)).2.1, fun a ha => g.dj a (sub a ha), fun a ha => g.ow a (sub a ha), g.s0, g.sd, g.fr, g.oo, pin, g.nf⟩
theorem Gd.dropW {w : Wk} (g : Gd X p lk L σ H e st (w :: ws)) : Gd X p lk L σ H e st ws :=
  let ⟨S, G, A, B, g⟩ := g
  ⟨S, G, A, B, g.less g.env g.stk (fun w h => g.wk w (List.mem_cons_of_mem _ h)) ⟨[], .refl _⟩ g.pin⟩
theorem Gd.subW {ws' : List Wk} (g : Gd X p lk L σ H e st ws) (h : ∀ w ∈ ws', w ∈ ws) : Gd X p lk L σ H e st ws' :=
  let ⟨S, G, A, B, g⟩ := g
  ⟨S, G, A, B, g.less g.env g.stk (fun w hw => g.wk w (h w hw)) ⟨[], .refl _⟩ g.pin⟩
theorem Gd.perm {st' : Stk} (g : Gd X p lk L σ H e st ws) (h : st.Perm st') : Gd X p lk L σ H e st' ws := by
  obtain ⟨S, G, A, B, g⟩ := g
  obtain ⟨B', h1, h2⟩ := g.stk.perm h
  exact ⟨S, G, A, B', g.less g.env h1 g.wk ⟨[], List.Perm.append_left _ h2⟩ g.pin⟩
theorem Gd.drop {w : V × D} (g : Gd X p lk L σ H e (w :: st) ws) : Gd X p lk L σ H e st ws := by
  obtain ⟨S, G, A, B, g⟩ := g
  cases hs : g.stk with
  | @cons _ _ A1 B1 r rr =>
    refine ⟨S, G, A, B1, g.less g.env rr g.wk ⟨A1, ?_⟩ g.pin⟩
    rw [← List.append_assoc, ← List.append_assoc]
    exact List.Perm.append_right _ List.perm_append_comm
/-- a strong value is only read from now on -/
theorem Gd.weaken {v : V} {d : D} (g : Gd X p lk L σ H e ((v, d) :: st) ws) : Gd X p lk L σ H e st (.v v (lend d) :: ws) := by
  obtain ⟨S, G, A, B, g⟩ := g
  cases hs : g.stk with
  | @cons _ _ A1 B1 r rr =>
    refine ⟨S, G, A, B1, g.less g.env rr (fun w h => ?_) ⟨A1, ?_⟩ g.pin⟩
    · rcases List.mem_cons.mp h with rfl | h
      · exact r.lend
      · exact g.wk w h
    · rw [← List.append_assoc, ← List.append_assoc]
      exact List.Perm.append_right _ List.perm_append_comm
/-- what stands for itself -/
theorem Gd.push {v : V} {d : D} (g : Gd X p lk L σ H e st ws) (h : ∀ z G, z.K = X.K → z.gm = X.mg → Rp z G (.v v d) []) : Gd X p lk L σ H e ((v, d) :: st) ws :=
  let ⟨S, G, A, B, g⟩ := g
  ⟨S, G, A, B, g.less g.env (.cons (A := []) (h _ _ rfl rfl) g.stk) g.wk ⟨[], .refl _⟩ g.pin⟩
theorem Gd.pushW {v : V} {d : D} (g : Gd X p lk L σ H e st ws) (h : ∀ z G, z.K = X.K → z.gm = X.mg → Rp z G (.v v d) []) : Gd X p lk L σ H e st (.v v d :: ws) :=
  let ⟨S, G, A, B, g⟩ := g
  ⟨S, G, A, B, g.less g.env g.stk (fun w hw => (List.mem_cons.mp hw).elim (fun z => z ▸ h _ _ rfl rfl) (g.wk w)) ⟨[], .refl _⟩ g.pin⟩
/-- a weak value without anything to own is a strong one -/
theorem Gd.strong {v : V} {d : D} (g : Gd X p lk L σ H e st (.v v d :: ws)) (hi : imm d = true) : Gd X p lk L σ H e ((v, d) :: st) ws := by
  obtain ⟨S, G, A, B, g⟩ := g
  have r := Rp.ofImm (z' := zo X p S lk) (g.wk (.v v d) List.mem_cons_self) rfl rfl hi
  exact ⟨S, G, A, B, g.less g.env (.cons (A := []) r.1 g.stk) (fun w h => g.wk w (List.mem_cons_of_mem _ h)) ⟨[], .refl _⟩ g.pin⟩
/-- a slot read -/
theorem Gd.slotW {i : Nat} {d : D} (g : Gd X p lk L σ H e st ws) (h : e[i]? = some (some d)) : ∃ v, σ[i]? = some (some v) ∧ Gd X p lk L σ H e st (.v v (lend d) :: ws) := by
  obtain ⟨S, G, A, B, g⟩ := g
  obtain ⟨v, A1, A2, h1, h2, h3, h4⟩ := g.env.split h
  refine ⟨v, h1, S, G, A, B, g.less g.env g.stk (fun w hw => ?_) ⟨[], .refl _⟩ g.pin⟩
  rcases List.mem_cons.mp hw with rfl | hw
  · exact h2.lend
  · exact g.wk w hw
/-- moved out of its slot -/
theorem Gd.slotM {i : Nat} {d : D} (g : Gd X p lk L σ H e st ws) (h : e[i]? = some (some d)) : ∃ v, σ[i]? = some (some v) ∧ Gd X p lk L σ H (e.set i none) ((v, d) :: st) ws := by
  obtain ⟨S, G, A, B, g⟩ := g
  obtain ⟨v, A1, A2, h1, h2, h3, h4⟩ := g.env.split h
  refine ⟨v, h1, S, G, A2, A1 ++ B, g.less h4 (.cons h2 g.stk) g.wk ⟨[], ?_⟩ g.pin⟩
  show (A ++ B).Perm (A2 ++ (A1 ++ B))
  refine (List.Perm.append_right B h3).trans ?_
  rw [← List.append_assoc]
  exact List.Perm.append_right _ List.perm_append_comm
/-- a name is stored -/
theorem Gd.store {i : Nat} {v : V} {d : D} (g : Gd X p lk L σ H e ((v, d) :: st) ws) (hi : i < e.length) (h0 : p.io = none ∨ i ≠ 0) (hn : ws = [] ∨ i ∉ p.nl) : Gd X p lk L (σ.set i (some v)) H (e.set i (some d)) st ws := by
  obtain ⟨S, G, A, B, g⟩ := g
  cases hs : g.stk with
  | @cons _ _ A1 B1 r rr =>
    obtain ⟨A2, k1, C, k2⟩ := g.env.kill i
    have q : (e.set i none)[i]? = some none := List.getElem?_set_self hi
    obtain ⟨A3, k3, k4⟩ := k1.put q r
    rw [List.set_set] at k3
    refine ⟨S, G, A3, B1, g.less k3 rr (fun w hw => ?_) ⟨C, ?_⟩ fun v' hv => ?_⟩
    · rcases hn with rfl | hn
      · cases hw
      · exact (g.wk w hw).slots fun j hj => List.getElem?_set_ne fun z => by subst z; exact hn hj
    · show (A ++ (A1 ++ B1)).Perm (C ++ (A3 ++ B1))
      refine (List.Perm.append_right _ k2).trans ?_
      rw [List.append_assoc]
      refine List.Perm.append_left _ ?_
      rw [← List.append_assoc]
      refine List.Perm.append_right _ ?_
      exact List.perm_append_comm.trans k4.symm
    · rcases h0 with h0 | h0
      · rw [h0] at hv; cases hv
      · rw [List.getElem?_set_ne h0]; exact g.pin v' hv
/-- a name is forgotten -/
theorem Gd.kill (g : Gd X p lk L σ H e st ws) (i : Nat) : Gd X p lk L σ H (e.set i none) st ws := by
  obtain ⟨S, G, A, B, g⟩ := g
  obtain ⟨A2, k1, C, k2⟩ := g.env.kill i
  refine ⟨S, G, A2, B, g.less k1 g.stk g.wk ⟨C, ?_⟩ g.pin⟩
  rw [← List.append_assoc]
  exact List.Perm.append_right _ k2
end
end DG

set_option Elab.async false
set_option linter.all false
set_option maxHeartbeats 4000000
/-! DGc: new objects, freezing, writing at a place. -/
namespace DG
open PySem PySem.Spec PyProof.Rows L2
set_option autoImplicit false
theorem unlock_tup {L : Lk} {G : Hp} (k : LkOk L G) {a : Addr} {u : List V} (h : Rd (lockAll L G) a (.tup u)) : Rd G a (.tup u) := by
  cases hn : L.hd.lookup a with
  | some o =>
    have m := (k.hd a o hn).2
    rw [Rd, lockAll_hd hn] at h
    rcases h with h | ⟨o', h⟩ <;> (cases h; exact m.elim)
  | none =>
    cases q : L.lo.lookup a with
    | none =>
      rw [Rd, lockAll_eq hn, q] at h
      rcases h with h | ⟨o, h⟩
      · revert h; cases hg : G a with
        | none => intro h; cases h
        | some x => intro h; cases h; exact .inl hg
      · revert h; cases hg : G a with
        | none => intro h; cases h
        | some x => intro h; cases h; exact .inr ⟨o, hg⟩
    | some od =>
      obtain ⟨x, hx, mx⟩ := k.lo a od q
      rcases h with h | ⟨o, h⟩
      · rw [lockAll_at k q hx] at h; cases h
      · rw [lockAll_at k q hx] at h; cases h; exact mx.elim
section
variable {X : Kx} {p : Par} {lk : List Addr} {L : Lk} {σ : L2.St} {H : Hp} {e : Env} {st : Stk} {ws : List Wk} {S : Addr → Prop} {G : Hp} {A B : List Addr}
theorem rd_upd_new {G : Hp} {a : Addr} {o : HO} (hn : G a = none) : ∀ b u, Rd G b u → Rd (upd G a o) b u := fun b u h => by
  have hb : b ≠ a := by
    rintro rfl
    obtain ⟨o, q⟩ := rd_dom h
    rw [hn] at q; cases q
  rw [Rd, upd_ne hb]; exact h
theorem rd_upd_mut {G : Hp} {a b : Addr} {o u : HO} (hb : b ≠ a) (h : Rd G b u) : Rd (upd G a o) b u := by rw [Rd, upd_ne hb]; exact h
theorem rd_fun {H : Hp} {a : Addr} {u u' : HO} (h : Rd H a u) (h' : H a = some u') (m : Mut (some u')) : u = u' := by
  rcases h with h | ⟨o, h⟩
  · rw [h] at h'; exact Option.some.inj h'
  · rw [h] at h'; cases h'; exact m.elim
theorem GdB.free (g : GdB X p lk L σ H e st ws S G A B) {a : Addr} (h : H a = none) : G a = none ∧ (L.lo.lookup a = none ∧ L.hd.lookup a = none) ∧ a ∉ lk ∧ ¬ S a ∧ ¬ p.R0 a ∧ a ∉ A ++ B ∧ p.H0 a = none := by
  have hG : G a = none := by rw [g.hL] at h; exact (lockAll_none h).2
  have hH : L.hd.lookup a = none := by rw [g.hL] at h; exact (lockAll_none h).1
  have notd : ∀ {o}, G a ≠ some o := fun z => by rw [hG] at z; cases z
  refine ⟨hG, ⟨?_, hH⟩, fun z => ?_, fun z => ?_, fun z => ?_, fun z => ?_, ?_⟩
  · cases q : L.lo.lookup a with
    | none => rfl
    | some od => obtain ⟨u, hu, _⟩ := g.lkd.lo a od q; exact absurd hu notd
  · obtain ⟨o, q⟩ := g.lke a z; exact notd q
  · obtain ⟨_, o, q⟩ := g.sd a z; exact notd q
  · obtain ⟨⟨o, q⟩, hO⟩ := g.ok.rd a z; exact notd (g.fr a o q hO)
  · rcases List.mem_append.mp z with z | z
    · obtain ⟨u, q, _⟩ := g.env.dom a z; exact notd q
    · obtain ⟨u, q, _⟩ := g.stk.dom a z; exact notd q
  · cases q : p.H0 a with
    | none => rfl
    | some o =>
      by_cases hO : a ∈ p.O
      · obtain ⟨o, q⟩ := g.oo a hO; exact absurd q notd
      · exact absurd (g.fr a o q hO) notd
theorem Gd.new0 (g : Gd X p lk L σ H e st ws) {a : Addr} (h : H a = none) : p.H0 a = none := let ⟨_, _, _, _, g⟩ := g; (g.free h).2.2.2.2.2.2
theorem RpS.toL {z : Zo} {H : Hp} {st : Stk} {A : List Addr} (h : RpS z H st A) : Rp z H (.l (st.map (·.1)) (st.map (·.2))) A := by
  induction h with
  | nil => exact .nil
  | cons r _ ih => exact .cons r ih
theorem nodup_new {a : Addr} {A B : List Addr} (h : (A ++ B).Nodup) (ha : a ∉ A ++ B) : (A ++ (a :: B)).Nodup := by
  have : (A ++ a :: B).Perm (a :: (A ++ B)) := List.perm_middle
  exact this.nodup_iff.mpr (List.nodup_cons.mpr ⟨ha, h⟩)
/-- a new object that owns the values in front -/
theorem Gd.alloc {front st0 : Stk} (g : Gd X p lk L σ H e (front ++ st0) ws) {a : Addr} (ha : H a = none) (o : HO) (d : D) (own : Bool)
    (mk : ∀ (z : Zo) (G : Hp) (B : List Addr), z.K = X.K → z.gm = X.mg → a ∉ z.lk → G a = some o → (∀ b u, Rd H b (.tup u) → Rd G b (.tup u)) → RpS z G front B → Rp z G (.v (.ref a) d) ((if own then [a] else []) ++ B)) (nfz : ∀ x u, o ≠ .frz x u := by intro x u q; cases q) :
    Gd X p lk L σ (upd H a o) e ((.ref a, d) :: st0) ws := by
  obtain ⟨S, G, A, B, g⟩ := g
  obtain ⟨f1, f2, f3, f4, f5, f6, f7⟩ := g.free ha
  have kr : ∀ b u, Rd G b u → Rd (upd G a o) b u := rd_upd_new f1
  have kA : ∀ b ∈ A ++ B, upd G a o b = G b := fun b hb => upd_ne fun z => f6 (z ▸ hb)
  have kd : ∀ b, (∃ u, G b = some u) → ∃ u, upd G a o b = some u := fun b ⟨u, q⟩ => ⟨u, by rw [upd_ne (ne_of_none q f1)]; exact q⟩
  obtain ⟨B1, B2, h1, h2, rfl⟩ := RpS.unappend g.stk
  have h1' : RpS (zo X p S lk) (upd G a o) front B1 := h1.mono (.refl _) (.of kr) fun b hb => kA b (List.mem_append_right _ (List.mem_append_left _ hb))
  have h2' : RpS (zo X p S lk) (upd G a o) st0 B2 := h2.mono (.refl _) (.of kr) fun b hb => kA b (List.mem_append_right _ (List.mem_append_right _ hb))
  have r := mk (zo X p S lk) (upd G a o) B1 rfl rfl f3 upd_same (fun b u h => kr b _ (unlock_tup g.lkd (by rw [← g.hL]; exact h))) h1'
  have eq : (if own then [a] else []) ++ B1 ++ B2 = (if own then [a] else []) ++ (B1 ++ B2) := List.append_assoc _ _ _
  have mem : ∀ b ∈ A ++ ((if own then [a] else []) ++ B1 ++ B2), b = a ∨ b ∈ A ++ (B1 ++ B2) := fun b hb => by
    rw [eq] at hb
    rcases List.mem_append.mp hb with h | h
    · exact .inr (List.mem_append_left _ h)
    · rcases List.mem_append.mp h with h | h
      · cases own
        · cases h
        · exact .inl (by simpa using h)
      · exact .inr (List.mem_append_right _ h)
  refine ⟨S, upd G a o, A, (if own then [a] else []) ++ B1 ++ B2, ⟨g.ok, by rw [g.hL, lockAll_upd f2.1 f2.2], ⟨fun b od q => ?_, fun b o q => ?_⟩, g.lkz, fun b hb => kd b (g.lke b hb), g.env.mono (.refl _) (.of kr) fun b hb => kA b (List.mem_append_left _ hb),
    .cons r h2', fun w hw => (g.wk w hw).mono kr, ?_, fun b hb => ?_, fun b hb => ?_, g.s0, fun b hb => ⟨(g.sd b hb).1, kd b (g.sd b hb).2⟩, fun b u q hO => ?_, fun b hb => kd b (g.oo b hb), g.pin, fun b hb x u => ?_⟩⟩
  · obtain ⟨u, hu, mu⟩ := g.lkd.lo b od q
    exact ⟨u, by rw [upd_ne (ne_of_none hu f1)]; exact hu, mu⟩
  · obtain ⟨h1, h2⟩ := g.lkd.hd b o q
    exact ⟨by rw [upd_ne fun z => by subst z; rw [f2.2] at q; cases q]; exact h1, h2⟩
  · rw [eq]
    cases own
    · exact g.nd
    · exact nodup_new g.nd f6
  · rcases mem b hb with rfl | h
    · exact ⟨f4, f5⟩
    · exact g.dj b h
  · rcases mem b hb with rfl | h
    · exact .inl f7
    · exact g.ow b h
  · have hb : b ≠ a := by rintro rfl; rw [f7] at q; cases q
    rw [upd_ne hb]; exact g.fr b u q hO
  · by_cases z : b = a
    · subst z; rw [upd_same]; exact fun z => nfz x u (Option.some.inj z)
    · rw [upd_ne z]; exact g.nf b hb x u
/-- a slot is read for good: it is frozen -/
theorem Gd.slotS {i : Nat} {d : D} {io : Bool} (g : Gd X p lk L σ H e st ws) (h : e[i]? = some (some d)) (hl : allF noLk d = true) (hio : io = false → p.O = []) :
    ∃ v, σ[i]? = some (some v) ∧ Gd X p lk L σ H (e.set i (some (share io d))) ((v, share io d) :: st) ws := by
  obtain ⟨S, G, A, B, g⟩ := g
  obtain ⟨v, A1, A2, h1, h2, h3, h4⟩ := g.env.split h
  let S' : Addr → Prop := fun a => S a ∨ a ∈ A1
  have hA1 : ∀ a ∈ A1, a ∈ A ++ B := fun a ha => List.mem_append_left _ (h3.mem_iff.mpr (List.mem_append_left _ ha))
  have zl : ZLe (zo X p S lk) (zo X p S' lk) := ⟨rfl, rfl, fun a h => .inl h, fun _ h => h, fun _ _ h => h, rfl⟩
  have hnd : (A1 ++ (A2 ++ B)).Nodup := by
    rw [← List.append_assoc]
    exact (List.Perm.append_right B h3).nodup_iff.mp g.nd
  have hdis : ∀ a ∈ A2 ++ B, a ∉ A1 := fun a ha hb => (List.nodup_append.mp hnd).2.2 a hb a ha rfl
  have sub : ∀ a ∈ A2 ++ B, a ∈ A ++ B := fun a ha => (List.mem_append.mp ha).elim (fun z => List.mem_append_left _ (h3.mem_iff.mpr (List.mem_append_right _ z))) fun z => List.mem_append_right _ z
  have r : Rp (zo X p S' lk) G (.v v (share io d)) [] := h2.remark (P := noLk) (m := shF io) rfl rfl hl fun f a hf o hu hA => by
    cases f with
    | own =>
      have ha : a ∈ A1 := hA a (by simp [FlA])
      cases io with
      | true => exact ⟨rfl, .inr ha⟩
      | false =>
        refine ⟨rfl, .inr ha, ?_⟩
        rcases g.ow a (hA1 a ha) with q | q
        · exact q
        · rw [hio rfl] at q; cases q
    | fr => exact ⟨rfl, .inl o.1, o.2⟩
    | sh => exact ⟨rfl, .inl o⟩
    | ro => exact ⟨rfl, o⟩
    | lk => simp [noLk] at hf
  have henv : ∃ A3, RpE (zo X p S' lk) G σ (e.set i (some (share io d))) A3 ∧ A3.Perm A2 := by
    have hlen : i < e.length := (List.getElem?_eq_some_iff.mp h).1
    obtain ⟨A3, k3, k4⟩ := (h4.mono zl .refl fun _ _ => rfl).put (List.getElem?_set_self hlen) r
    rw [List.set_set] at k3
    have e1 : σ.set i (some v) = σ := by
      apply List.ext_getElem?
      intro j
      by_cases hj : j = i
      · subst hj; rw [List.getElem?_set_self (List.getElem?_eq_some_iff.mp h1).1, h1]
      · rw [List.getElem?_set_ne (Ne.symm hj)]
    rw [e1] at k3
    exact ⟨A3, k3, k4⟩
  obtain ⟨A3, k3, k4⟩ := henv
  have sub3 : ∀ a ∈ A3 ++ B, a ∈ A2 ++ B := fun a ha => (List.mem_append.mp ha).elim (fun z => List.mem_append_left _ (k4.mem_iff.mp z)) fun z => List.mem_append_right _ z
  refine ⟨v, h1, S', G, A3, B, ⟨g.ok, g.hL, g.lkd, fun a od q => (g.lkz a od q).elim (fun z => .inl (.inl z)) .inr, g.lke, k3, .cons (A := []) r (g.stk.mono zl .refl fun _ _ => rfl), g.wk,
    (List.Perm.append_right B k4).nodup_iff.mpr (List.nodup_append.mp hnd).2.1, fun a ha => ⟨fun q => q.elim (g.dj a (sub a (sub3 a ha))).1 (hdis a (sub3 a ha)), (g.dj a (sub a (sub3 a ha))).2⟩, fun a ha => g.ow a (sub a (sub3 a ha)), fun a ha => .inl (g.s0 a ha), fun a ha => ?_, g.fr, g.oo, g.pin, g.nf⟩⟩
  rcases ha with ha | ha
  · exact g.sd a ha
  · refine ⟨?_, ?_⟩
    · rcases g.ow a (hA1 a ha) with q | q
      · exact .inr (.inl q)
      · exact .inr (.inr q)
    · obtain ⟨u, hu, _⟩ := h2.dom a ha
      exact ⟨u, hu⟩
end
end DG

set_option Elab.async false
set_option linter.all false
set_option maxHeartbeats 4000000
/-! DGd: places (a slot, then fields, keys, items), what stands there, writing there. -/
namespace DG
open PySem PySem.Spec PyProof.Rows L2
set_option autoImplicit false
/-! ### lists of pairs -/
section
variable {κ α : Type} [DecidableEq κ]
def repA : List (κ × α) → κ → α → List (κ × α)
  | [], _, _ => []
  | (k', a) :: r, k, b => if k' = k then (k', b) :: r else (k', a) :: repA r k b
def setA (l : List (κ × α)) (k : κ) (b : α) : List (κ × α) := if (getA l k).isSome then repA l k b else l ++ [(k, b)]
theorem repA_keys (l : List (κ × α)) (k : κ) (b : α) : (repA l k b).map (·.1) = l.map (·.1) := by
  induction l with
  | nil => rfl
  | cons p r ih =>
    obtain ⟨k', a⟩ := p
    unfold repA
    by_cases h : k' = k
    · rw [if_pos h]; rfl
    · rw [if_neg h, List.map_cons, List.map_cons, ih]
theorem getA_none (l : List (κ × α)) (k : κ) : getA l k = none ↔ k ∉ l.map (·.1) := by
  induction l with
  | nil => simp [getA]
  | cons p r ih =>
    obtain ⟨k', a⟩ := p
    unfold getA
    by_cases h : k' = k
    · simp [h]
    · rw [if_neg h, ih]
      simp [Ne.symm h]
theorem repA_same {l : List (κ × α)} {k : κ} {b : α} (h : getA l k = some b) : repA l k b = l := by
  induction l with
  | nil => rfl
  | cons p r ih =>
    obtain ⟨k', a⟩ := p
    unfold getA at h
    unfold repA
    by_cases e : k' = k
    · rw [if_pos e] at h ⊢; cases h; rfl
    · rw [if_neg e] at h ⊢; rw [ih h]
theorem setA_nodup {l : List (κ × α)} (k : κ) (b : α) (h : (l.map (·.1)).Nodup) : ((setA l k b).map (·.1)).Nodup := by
  unfold setA
  cases q : getA l k with
  | some a =>
    rw [show (some a).isSome = true from rfl, if_pos rfl, repA_keys]; exact h
  | none =>
    rw [show (none : Option α).isSome = false from rfl, if_neg Bool.false_ne_true, List.map_append]
    refine List.nodup_append.mpr ⟨h, by simp, fun x hx y hy => ?_⟩
    have : y = k := by simpa using hy
    subst this
    rintro rfl
    exact (getA_none l _).mp q hx
theorem valV_getA (l : List (κ × V)) (k : κ) : valV l k = getA l k := by
  induction l with
  | nil => rfl
  | cons p r ih =>
    obtain ⟨k', a⟩ := p
    unfold getA
    by_cases e : k' = k
    · rw [if_pos e, valV_pos e]
    · rw [if_neg e, valV_neg e, ih]
theorem rep_map {l : List (κ × V)} {k : κ} (b : V) (h : (l.map (·.1)).Nodup) : (l.map fun kv => if kv.1 = k then (kv.1, b) else kv) = repA l k b := by
  induction l with
  | nil => rfl
  | cons p r ih =>
    obtain ⟨k', a⟩ := p
    rw [List.map_cons, List.nodup_cons] at h
    unfold repA
    by_cases e : k' = k
    · subst e
      rw [List.map_cons, if_pos rfl, if_pos rfl]
      congr 1
      refine (List.map_congr_left fun q hq => ?_).trans (List.map_id _)
      rw [if_neg]
      · rfl
      · intro z; exact h.1 (List.mem_map.mpr ⟨q, hq, z⟩)
    · rw [List.map_cons, if_neg e, if_neg e, ih h.2]
theorem putK_setA {l : List (κ × V)} {k : κ} (b : V) (h : (l.map (·.1)).Nodup) : putK l k b = setA l k b := by
  unfold putK setA
  rw [valV_any, valV_getA]
  by_cases q : (getA l k).isSome = true
  · rw [if_pos q, if_pos q]; exact rep_map b h
  · rw [if_neg q, if_neg q]
end
def getS : D → Stp → Option D
  | .ins _ _ fs, .fld f => getA fs f
  | .exc _ _ fs, .fld f => getA fs f
  | .dk _ ks, .key k => getA ks k
  | .dt _ ks, .kt k => getA ks k
  | .lst _ ds, .ix n => ds[n]?
  | .tup ds, .ix n => ds[n]?
  | _, _ => none
def setS : D → Stp → D → D
  | .ins f c fs, .fld x, d => .ins f c (repA fs x d)
  | .exc f c fs, .fld x, d => .exc f c (repA fs x d)
  | .dk f ks, .key k, d => .dk f (repA ks k d)
  | .dt f ks, .kt k, d => .dt f (repA ks k d)
  | .lst f ds, .ix n, d => .lst f (ds.set n d)
  | .tup ds, .ix n, d => .tup (ds.set n d)
  | c, _, _ => c
def getP : D → Pth → Option D
  | d, [] => some d
  | d, s :: r => (getS d s).bind fun c => getP c r
def setP : D → Pth → D → D
  | _, [], d' => d'
  | d, s :: r, d' => match getS d s with
    | some c => setS d s (setP c r d')
    | none => d
theorem allFL_get {p : Fl → Bool} : ∀ {ds : List D} {n : Nat} {d : D}, allFL p ds = true → ds[n]? = some d → allF p d = true
  | [], n, d, _, h => by simp at h
  | d0 :: r, 0, d, q, h => by
    have e := Option.some.inj h
    subst e
    simp only [allFL, Bool.and_eq_true] at q; exact q.1
  | d0 :: r, n + 1, d, q, h => by
    simp only [allFL, Bool.and_eq_true] at q
    exact allFL_get q.2 (by simpa using h)
theorem getS_imm {d c : D} {s : Stp} (h : getS d s = some c) (n : imm c = false) : imm d = false := by
  cases hd : imm d with
  | false => rfl
  | true =>
    cases d <;> simp only [imm, allF, Bool.false_and, Bool.false_eq_true] at hd
    all_goals (cases s <;> simp only [getS, reduceCtorEq] at h)
    rw [show imm c = true from allFL_get hd h] at n
    cases n
theorem getP_imm : ∀ {π : Pth} {d c : D}, getP d π = some c → imm c = false → imm d = false
  | [], d, c, h, n => by cases h; exact n
  | s :: r, d, c, h, n => by
    unfold getP at h
    cases q : getS d s with
    | none => rw [q] at h; cases h
    | some x => rw [q] at h; exact getS_imm q (getP_imm (π := r) h n)
theorem rd_inj {H : Hp} {a : Addr} {u u' : HO} (h : Rd H a u) (h' : Rd H a u') (n : ∀ o x, u ≠ .frz o x) (n' : ∀ o x, u' ≠ .frz o x) : u = u' := by
  rcases h with h | ⟨o, h⟩ <;> rcases h' with h' | ⟨o', h'⟩ <;> rw [h] at h'
  · exact Option.some.inj h'
  · cases h'; exact absurd rfl (n _ _)
  · cases h'; exact absurd rfl (n' _ _)
  · cases h'; rfl

/-- one item of a list of values -/
theorem Rp.focL {z : Zo} {H : Hp} : ∀ {xs : List V} {ds : List D} {A : List Addr} {n : Nat} {d0 : D}, Rp z H (.l xs ds) A → ds[n]? = some d0 →
    ∃ v0 A0 A1, xs[n]? = some v0 ∧ Rp z H (.v v0 d0) A0 ∧ A.Perm (A0 ++ A1) ∧
      ∀ (z' : Zo) (H' : Hp) (v' : V) (d' : D) (A0' : List Addr), ZLe z z' → HLe z H H' → (∀ a ∈ A1, H' a = H a) → Rp z' H' (.v v' d') A0' → ∃ A', Rp z' H' (.l (xs.set n v') (ds.set n d')) A' ∧ A'.Perm (A0' ++ A1)
  | _, _, _, n, d0, .nil, h => by simp at h
  | _, _, _, 0, d0, .cons (v := v) (vs := vs) (ds := ds) (A := A) (B := B) r rr, h => by
    have e := Option.some.inj h
    subst e
    exact ⟨v, A, B, rfl, r, .refl _, fun z' H' v' d' A0' k kh kA r' => ⟨A0' ++ B, .cons r' (rr.mono k kh kA), .refl _⟩⟩
  | _, _, _, n + 1, d0, .cons (v := v) (vs := vs) (ds := ds) (A := A) (B := B) r rr, h => by
    obtain ⟨v0, A0, A1, h1, h2, h3, h4⟩ := Rp.focL (n := n) rr (by simpa using h)
    refine ⟨v0, A0, A ++ A1, by simpa using h1, h2, ?_, fun z' H' v' d' A0' k kh kA r' => ?_⟩
    · refine (List.Perm.append_left A h3).trans ?_
      rw [← List.append_assoc, ← List.append_assoc]
      exact List.Perm.append_right _ List.perm_append_comm
    · obtain ⟨A', q1, q2⟩ := h4 z' H' v' d' A0' k kh (fun a ha => kA a (List.mem_append_right _ ha)) r'
      refine ⟨A ++ A', .cons (r.mono k kh fun a ha => kA a (List.mem_append_left _ ha)) q1, (List.Perm.append_left A q2).trans ?_⟩
      rw [← List.append_assoc, ← List.append_assoc]
      exact List.Perm.append_right _ List.perm_append_comm
theorem Rp.lenL {z : Zo} {H : Hp} : ∀ {xs : List V} {ds : List D} {A : List Addr}, Rp z H (.l xs ds) A → xs.length = ds.length
  | _, _, _, .nil => rfl
  | _, _, _, .cons _ rr => by simp [Rp.lenL rr]
theorem Rp.appL {z : Zo} {H : Hp} : ∀ {xs ys : List V} {ds es : List D} {A B : List Addr}, Rp z H (.l xs ds) A → Rp z H (.l ys es) B → Rp z H (.l (xs ++ ys) (ds ++ es)) (A ++ B)
  | _, _, _, _, _, _, .nil, r => r
  | _, _, _, _, _, _, .cons r rr, q => by rw [List.append_assoc]; exact .cons r (Rp.appL rr q)
theorem Rp.unappL {z : Zo} {H : Hp} : ∀ {ds es : List D} {zs : List V} {A : List Addr}, Rp z H (.l zs (ds ++ es)) A → ∃ xs ys A1 A2, zs = xs ++ ys ∧ A = A1 ++ A2 ∧ Rp z H (.l xs ds) A1 ∧ Rp z H (.l ys es) A2
  | [], es, zs, A, h => ⟨[], zs, [], A, rfl, rfl, .nil, h⟩
  | d :: ds, es, _, _, .cons (v := v) (A := A) r rr => by
    obtain ⟨xs, ys, A1, A2, e1, e2, h1, h2⟩ := Rp.unappL rr
    subst e1; subst e2
    exact ⟨v :: xs, ys, A ++ A1, A2, rfl, by rw [List.append_assoc], .cons r h1, h2⟩

theorem Rp.focK {z : Zo} {H : Hp} : ∀ {ks : List (Key × V)} {es : List (Key × D)} {A : List Addr} {k : Key} {d0 : D}, Rp z H (.k ks es) A → getA es k = some d0 →
    ∃ v0 A0 A1, getA ks k = some v0 ∧ Rp z H (.v v0 d0) A0 ∧ A.Perm (A0 ++ A1) ∧
      ∀ (z' : Zo) (H' : Hp) (v' : V) (d' : D) (A0' : List Addr), ZLe z z' → HLe z H H' → (∀ a ∈ A1, H' a = H a) → Rp z' H' (.v v' d') A0' → ∃ A', Rp z' H' (.k (repA ks k v') (repA es k d')) A' ∧ A'.Perm (A0' ++ A1)
  | _, _, _, k, d0, .knil, h => by simp [getA] at h
  | _, _, _, k, d0, .kcons (k := k') (v := v) (vs := vs) (ds := ds) (A := A) (B := B) r rr, h => by
    by_cases e : k' = k
    · subst e
      unfold getA at h
      rw [if_pos rfl] at h
      have e := Option.some.inj h
      subst e
      exact ⟨v, A, B, by unfold getA; rw [if_pos rfl], r, .refl _, fun z' H' v' d' A0' kk kh kA r' => ⟨A0' ++ B, by unfold repA; rw [if_pos rfl, if_pos rfl]; exact .kcons r' (rr.mono kk kh kA), .refl _⟩⟩
    · unfold getA at h
      rw [if_neg e] at h
      obtain ⟨v0, A0, A1, h1, h2, h3, h4⟩ := Rp.focK rr h
      refine ⟨v0, A0, A ++ A1, by unfold getA; rw [if_neg e]; exact h1, h2, ?_, fun z' H' v' d' A0' kk kh kA r' => ?_⟩
      · refine (List.Perm.append_left A h3).trans ?_
        rw [← List.append_assoc, ← List.append_assoc]
        exact List.Perm.append_right _ List.perm_append_comm
      · obtain ⟨A', q1, q2⟩ := h4 z' H' v' d' A0' kk kh (fun a ha => kA a (List.mem_append_right _ ha)) r'
        refine ⟨A ++ A', by unfold repA; rw [if_neg e, if_neg e]; exact .kcons (r.mono kk kh fun a ha => kA a (List.mem_append_left _ ha)) q1, (List.Perm.append_left A q2).trans ?_⟩
        rw [← List.append_assoc, ← List.append_assoc]
        exact List.Perm.append_right _ List.perm_append_comm
theorem Rp.keysK {z : Zo} {H : Hp} : ∀ {ks : List (Key × V)} {es : List (Key × D)} {A : List Addr}, Rp z H (.k ks es) A → ks.map (·.1) = es.map (·.1)
  | _, _, _, .knil => rfl
  | _, _, _, .kcons _ rr => by simp [Rp.keysK rr]
theorem Rp.nonK {z : Zo} {H : Hp} {ks : List (Key × V)} {es : List (Key × D)} {A : List Addr} {k : Key} (r : Rp z H (.k ks es) A) (h : getA es k = none) : getA ks k = none := by
  rw [getA_none] at h ⊢
  rw [r.keysK]; exact h
theorem Rp.appK {z : Zo} {H : Hp} : ∀ {xs ys : List (Key × V)} {ds es : List (Key × D)} {A B : List Addr}, Rp z H (.k xs ds) A → Rp z H (.k ys es) B → Rp z H (.k (xs ++ ys) (ds ++ es)) (A ++ B)
  | _, _, _, _, _, _, .knil, r => r
  | _, _, _, _, _, _, .kcons r rr, q => by rw [List.append_assoc]; exact .kcons r (Rp.appK rr q)

theorem Rp.focT {z : Zo} {H : Hp} : ∀ {ks : List (List Key × V)} {es : List (List Key × D)} {A : List Addr} {k : List Key} {d0 : D}, Rp z H (.t ks es) A → getA es k = some d0 →
    ∃ v0 A0 A1, getA ks k = some v0 ∧ Rp z H (.v v0 d0) A0 ∧ A.Perm (A0 ++ A1) ∧
      ∀ (z' : Zo) (H' : Hp) (v' : V) (d' : D) (A0' : List Addr), ZLe z z' → HLe z H H' → (∀ a ∈ A1, H' a = H a) → Rp z' H' (.v v' d') A0' → ∃ A', Rp z' H' (.t (repA ks k v') (repA es k d')) A' ∧ A'.Perm (A0' ++ A1)
  | _, _, _, k, d0, .tnil, h => by simp [getA] at h
  | _, _, _, k, d0, .tcons (k := k') (v := v) (vs := vs) (ds := ds) (A := A) (B := B) r rr, h => by
    by_cases e : k' = k
    · subst e
      unfold getA at h
      rw [if_pos rfl] at h
      have e := Option.some.inj h
      subst e
      exact ⟨v, A, B, by unfold getA; rw [if_pos rfl], r, .refl _, fun z' H' v' d' A0' kk kh kA r' => ⟨A0' ++ B, by unfold repA; rw [if_pos rfl, if_pos rfl]; exact .tcons r' (rr.mono kk kh kA), .refl _⟩⟩
    · unfold getA at h
      rw [if_neg e] at h
      obtain ⟨v0, A0, A1, h1, h2, h3, h4⟩ := Rp.focT rr h
      refine ⟨v0, A0, A ++ A1, by unfold getA; rw [if_neg e]; exact h1, h2, ?_, fun z' H' v' d' A0' kk kh kA r' => ?_⟩
      · refine (List.Perm.append_left A h3).trans ?_
        rw [← List.append_assoc, ← List.append_assoc]
        exact List.Perm.append_right _ List.perm_append_comm
      · obtain ⟨A', q1, q2⟩ := h4 z' H' v' d' A0' kk kh (fun a ha => kA a (List.mem_append_right _ ha)) r'
        refine ⟨A ++ A', by unfold repA; rw [if_neg e, if_neg e]; exact .tcons (r.mono kk kh fun a ha => kA a (List.mem_append_left _ ha)) q1, (List.Perm.append_left A q2).trans ?_⟩
        rw [← List.append_assoc, ← List.append_assoc]
        exact List.Perm.append_right _ List.perm_append_comm
theorem Rp.keysT {z : Zo} {H : Hp} : ∀ {ks : List (List Key × V)} {es : List (List Key × D)} {A : List Addr}, Rp z H (.t ks es) A → ks.map (·.1) = es.map (·.1)
  | _, _, _, .tnil => rfl
  | _, _, _, .tcons _ rr => by simp [Rp.keysT rr]
theorem Rp.nonT {z : Zo} {H : Hp} {ks : List (List Key × V)} {es : List (List Key × D)} {A : List Addr} {k : List Key} (r : Rp z H (.t ks es) A) (h : getA es k = none) : getA ks k = none := by
  rw [getA_none] at h ⊢
  rw [r.keysT]; exact h
theorem Rp.appT {z : Zo} {H : Hp} : ∀ {xs ys : List (List Key × V)} {ds es : List (List Key × D)} {A B : List Addr}, Rp z H (.t xs ds) A → Rp z H (.t ys es) B → Rp z H (.t (xs ++ ys) (ds ++ es)) (A ++ B)
  | _, _, _, _, _, _, .tnil, r => r
  | _, _, _, _, _, _, .tcons r rr, q => by rw [List.append_assoc]; exact .tcons r (Rp.appT rr q)

theorem Rp.focF {z : Zo} {H : Hp} : ∀ {ks : List (Str × V)} {es : List (Str × D)} {A : List Addr} {k : Str} {d0 : D}, Rp z H (.s ks es) A → getA es k = some d0 →
    ∃ v0 A0 A1, getA ks k = some v0 ∧ Rp z H (.v v0 d0) A0 ∧ A.Perm (A0 ++ A1) ∧
      ∀ (z' : Zo) (H' : Hp) (v' : V) (d' : D) (A0' : List Addr), ZLe z z' → HLe z H H' → (∀ a ∈ A1, H' a = H a) → Rp z' H' (.v v' d') A0' → ∃ A', Rp z' H' (.s (repA ks k v') (repA es k d')) A' ∧ A'.Perm (A0' ++ A1)
  | _, _, _, k, d0, .snil, h => by simp [getA] at h
  | _, _, _, k, d0, .scons (k := k') (v := v) (vs := vs) (ds := ds) (A := A) (B := B) r rr, h => by
    by_cases e : k' = k
    · subst e
      unfold getA at h
      rw [if_pos rfl] at h
      have e := Option.some.inj h
      subst e
      exact ⟨v, A, B, by unfold getA; rw [if_pos rfl], r, .refl _, fun z' H' v' d' A0' kk kh kA r' => ⟨A0' ++ B, by unfold repA; rw [if_pos rfl, if_pos rfl]; exact .scons r' (rr.mono kk kh kA), .refl _⟩⟩
    · unfold getA at h
      rw [if_neg e] at h
      obtain ⟨v0, A0, A1, h1, h2, h3, h4⟩ := Rp.focF rr h
      refine ⟨v0, A0, A ++ A1, by unfold getA; rw [if_neg e]; exact h1, h2, ?_, fun z' H' v' d' A0' kk kh kA r' => ?_⟩
      · refine (List.Perm.append_left A h3).trans ?_
        rw [← List.append_assoc, ← List.append_assoc]
        exact List.Perm.append_right _ List.perm_append_comm
      · obtain ⟨A', q1, q2⟩ := h4 z' H' v' d' A0' kk kh (fun a ha => kA a (List.mem_append_right _ ha)) r'
        refine ⟨A ++ A', by unfold repA; rw [if_neg e, if_neg e]; exact .scons (r.mono kk kh fun a ha => kA a (List.mem_append_left _ ha)) q1, (List.Perm.append_left A q2).trans ?_⟩
        rw [← List.append_assoc, ← List.append_assoc]
        exact List.Perm.append_right _ List.perm_append_comm
theorem Rp.keysF {z : Zo} {H : Hp} : ∀ {ks : List (Str × V)} {es : List (Str × D)} {A : List Addr}, Rp z H (.s ks es) A → ks.map (·.1) = es.map (·.1)
  | _, _, _, .snil => rfl
  | _, _, _, .scons _ rr => by simp [Rp.keysF rr]
theorem Rp.nonF {z : Zo} {H : Hp} {ks : List (Str × V)} {es : List (Str × D)} {A : List Addr} {k : Str} (r : Rp z H (.s ks es) A) (h : getA es k = none) : getA ks k = none := by
  rw [getA_none] at h ⊢
  rw [r.keysF]; exact h
theorem Rp.appF {z : Zo} {H : Hp} : ∀ {xs ys : List (Str × V)} {ds es : List (Str × D)} {A B : List Addr}, Rp z H (.s xs ds) A → Rp z H (.s ys es) B → Rp z H (.s (xs ++ ys) (ds ++ es)) (A ++ B)
  | _, _, _, _, _, _, .snil, r => r
  | _, _, _, _, _, _, .scons r rr, q => by rw [List.append_assoc]; exact .scons r (Rp.appF rr q)

/-- one step further in, the rest apart -/
theorem Rp.focS {z : Zo} {H : Hp} {v : V} {d d0 : D} {A : List Addr} {s : Stp} (h : Rp z H (.v v d) A) (q : getS d s = some d0) :
    ∃ v0 A0 A1, VS H v s v0 ∧ Rp z H (.v v0 d0) A0 ∧ A.Perm (A0 ++ A1) ∧
      ∀ (z' : Zo) (H' : Hp) (d' : D) (A0' : List Addr), ZLe z z' → HLe z H H' → (∀ a ∈ A1, H' a = H a) → Rp z' H' (.v v0 d') A0' → ∃ A', Rp z' H' (.v v (setS d s d')) A' ∧ A'.Perm (A0' ++ A1) ∧ VS H' v s v0 := by
  have sw : ∀ {P Q R : List Addr}, (P ++ (Q ++ R)).Perm (Q ++ (P ++ R)) := fun {P Q R} => by
    rw [← List.append_assoc, ← List.append_assoc]
    exact List.Perm.append_right _ List.perm_append_comm
  cases h with
  | @tup a xs ds _ t r =>
    cases s with
    | ix n =>
      obtain ⟨v0, A0, A1, h1, h2, h3, h4⟩ := r.focL q
      have t : Rd H a (.tup xs) := t
      refine ⟨v0, A0, A1, ⟨a, xs, rfl, .inr t, h1⟩, h2, h3, fun z' H' d' A0' k kh kA r' => ?_⟩
      obtain ⟨A', q1, q2⟩ := h4 z' H' v0 d' A0' k kh kA r'
      have e : xs.set n v0 = xs := by
        apply List.ext_getElem?
        intro j
        by_cases hj : j = n
        · subst hj; rw [List.getElem?_set_self (List.getElem?_eq_some_iff.mp h1).1, h1]
        · rw [List.getElem?_set_ne (Ne.symm hj)]
      rw [e] at q1
      exact ⟨A', .tup (kh.t _ _ t) q1, q2, ⟨a, xs, rfl, .inr (kh.t _ _ t), h1⟩⟩
    | _ => simp [getS] at q
  | @lst f a xs ds B at0 o r =>
    cases s with
    | ix n =>
      obtain ⟨v0, A0, A1, h1, h2, h3, h4⟩ := r.focL q
      refine ⟨v0, A0, FlA f a ++ A1, ⟨a, xs, rfl, .inl at0.rd, h1⟩, h2, (List.Perm.append_left _ h3).trans sw, fun z' H' d' A0' k kh kA r' => ?_⟩
      obtain ⟨A', q1, q2⟩ := h4 z' H' v0 d' A0' k kh (fun a ha => kA a (List.mem_append_right _ ha)) r'
      have e : xs.set n v0 = xs := by
        apply List.ext_getElem?
        intro j
        by_cases hj : j = n
        · subst hj; rw [List.getElem?_set_self (List.getElem?_eq_some_iff.mp h1).1, h1]
        · rw [List.getElem?_set_ne (Ne.symm hj)]
      rw [e] at q1
      exact ⟨FlA f a ++ A', .lst (at0.mono o kh kA) (o.mono k) q1, (List.Perm.append_left _ q2).trans sw, ⟨a, xs, rfl, .inl (at0.mono o kh kA).rd, h1⟩⟩
    | _ => simp [getS] at q
  | @dk f a ks es B at0 o n r =>
    cases s with
    | key kk =>
      obtain ⟨v0, A0, A1, h1, h2, h3, h4⟩ := r.focK q
      refine ⟨v0, A0, FlA f a ++ A1, ⟨a, ks, rfl, at0.rd, h1⟩, h2, (List.Perm.append_left _ h3).trans sw, fun z' H' d' A0' k kh kA r' => ?_⟩
      obtain ⟨A', q1, q2⟩ := h4 z' H' v0 d' A0' k kh (fun a ha => kA a (List.mem_append_right _ ha)) r'
      rw [repA_same h1] at q1
      exact ⟨FlA f a ++ A', .dk (at0.mono o kh kA) (o.mono k) (by rw [repA_keys]; exact n) q1, (List.Perm.append_left _ q2).trans sw, ⟨a, ks, rfl, (at0.mono o kh kA).rd, h1⟩⟩
    | _ => simp [getS] at q
  | @dt f a ks es B at0 o n r =>
    cases s with
    | kt kk =>
      obtain ⟨v0, A0, A1, h1, h2, h3, h4⟩ := r.focT q
      refine ⟨v0, A0, FlA f a ++ A1, ⟨a, ks, rfl, at0.rd, h1⟩, h2, (List.Perm.append_left _ h3).trans sw, fun z' H' d' A0' k kh kA r' => ?_⟩
      obtain ⟨A', q1, q2⟩ := h4 z' H' v0 d' A0' k kh (fun a ha => kA a (List.mem_append_right _ ha)) r'
      rw [repA_same h1] at q1
      exact ⟨FlA f a ++ A', .dt (at0.mono o kh kA) (o.mono k) (by rw [repA_keys]; exact n) q1, (List.Perm.append_left _ q2).trans sw, ⟨a, ks, rfl, (at0.mono o kh kA).rd, h1⟩⟩
    | _ => simp [getS] at q
  | @ins f a C dx c fs es B at0 o e r =>
    cases s with
    | fld kk =>
      obtain ⟨v0, A0, A1, h1, h2, h3, h4⟩ := r.focF q
      refine ⟨v0, A0, FlA f a ++ A1, ⟨a, rfl, .inl ⟨C, dx, fs, at0.rd, h1⟩⟩, h2, (List.Perm.append_left _ h3).trans sw, fun z' H' d' A0' k kh kA r' => ?_⟩
      obtain ⟨A', q1, q2⟩ := h4 z' H' v0 d' A0' k kh (fun a ha => kA a (List.mem_append_right _ ha)) r'
      rw [repA_same h1] at q1
      exact ⟨FlA f a ++ A', .ins (at0.mono o kh kA) (o.mono k) (by rw [k.gm]; exact e) q1, (List.Perm.append_left _ q2).trans sw, ⟨a, rfl, .inl ⟨C, dx, fs, (at0.mono o kh kA).rd, h1⟩⟩⟩
    | _ => simp [getS] at q
  | @exc f a C dd c fs es B e at0 o x gq r =>
    cases s with
    | fld kk =>
      obtain ⟨v0, A0, A1, h1, h2, h3, h4⟩ := r.focF q
      cases dd with
      | none =>
        have x : fs = [] := x
        subst x
        cases h1
      | some dd =>
        refine ⟨v0, A0, A1, ⟨a, rfl, .inr ⟨C, dd, fs, at0, x.1, h1⟩⟩, h2, h3, fun z' H' d' A0' k kh kA r' => ?_⟩
        obtain ⟨A', q1, q2⟩ := h4 z' H' v0 d' A0' k kh kA r'
        rw [repA_same h1] at q1
        exact ⟨A', .exc e (At.mono' e at0 o kh) (o.mono k) (XdAt.mono (dd := some dd) x e k kh) (by rw [k.gm]; exact gq) q1, q2, ⟨a, rfl, .inr ⟨C, dd, fs, At.mono' e at0 o kh, (XdAt.mono (dd := some dd) x e k kh).1, h1⟩⟩⟩
    | _ => simp [getS] at q
  | kd => simp [getS] at q
  | non => simp [getS] at q
  | bl => simp [getS] at q
  | int => simp [getS] at q
  | str => simp [getS] at q
  | ty => simp [getS] at q
  | fn => simp [getS] at q
theorem Rp.focP {z : Zo} {H : Hp} : ∀ {π : Pth} {v : V} {d d0 : D} {A : List Addr}, Rp z H (.v v d) A → getP d π = some d0 →
    ∃ v0 A0 A1, VP H v π v0 ∧ Rp z H (.v v0 d0) A0 ∧ A.Perm (A0 ++ A1) ∧
      ∀ (z' : Zo) (H' : Hp) (d' : D) (A0' : List Addr), ZLe z z' → HLe z H H' → (∀ a ∈ A1, H' a = H a) → Rp z' H' (.v v0 d') A0' → ∃ A', Rp z' H' (.v v (setP d π d')) A' ∧ A'.Perm (A0' ++ A1) ∧ VP H' v π v0
  | [], v, d, d0, A, h, q => by
    have e := Option.some.inj q
    subst e
    exact ⟨v, A, [], rfl, h, by simp, fun z' H' d' A0' k kh kA r' => ⟨A0', r', by simp, rfl⟩⟩
  | s :: π, v, d, d0, A, h, q => by
    unfold getP at q
    cases hs : getS d s with
    | none => rw [hs] at q; cases q
    | some c =>
      rw [hs] at q
      obtain ⟨v1, B0, B1, h1, h2, h3, h4⟩ := h.focS hs
      obtain ⟨v0, A0, A1, k1, k2, k3, k4⟩ := Rp.focP (π := π) h2 q
      refine ⟨v0, A0, A1 ++ B1, ⟨v1, h1, k1⟩, k2, ?_, fun z' H' d' A0' k kh kA r' => ?_⟩
      · rw [← List.append_assoc]
        exact h3.trans (List.Perm.append_right _ k3)
      · obtain ⟨A', q1, q2, w1⟩ := k4 z' H' d' A0' k kh (fun a ha => kA a (List.mem_append_left _ ha)) r'
        obtain ⟨A'', q3, q4, w2⟩ := h4 z' H' _ A' k kh (fun a ha => kA a (List.mem_append_right _ ha)) q1
        refine ⟨A'', ?_, q4.trans ?_, ⟨_, w2, w1⟩⟩
        · unfold setP; rw [hs]; exact q3
        · rw [← List.append_assoc]
          exact List.Perm.append_right _ q2
end DG

set_option Elab.async false
set_option linter.all false
set_option maxHeartbeats 4000000
/-! DGe: an own object is changed where it stands. -/
namespace DG
open PySem PySem.Spec PyProof.Rows L2
set_option autoImplicit false
theorem VS.inj {H : Hp} {v x y : V} {s : Stp} (h : VS H v s x) (h' : VS H v s y) : x = y := by
  cases s with
  | fld f =>
    obtain ⟨a, e, h⟩ := h
    obtain ⟨a', e', h'⟩ := h'
    rw [e] at e'; cases e'
    rcases h with ⟨C, dx, fs, r, q⟩ | ⟨C, dd, fs, r, r2, q⟩ <;> rcases h' with ⟨C', dx', fs', r', q'⟩ | ⟨C', dd', fs', r', r2', q'⟩
    · cases rd_inj r r' (by intros; simp) (by intros; simp)
      rw [q] at q'; exact Option.some.inj q'
    · cases rd_inj r r' (by intros; simp) (by intros; simp)
    · cases rd_inj r r' (by intros; simp) (by intros; simp)
    · obtain ⟨_, ed⟩ := ExcP.inj (HO.ext.inj (rd_inj r r' (by intros; simp) (by intros; simp)))
      cases ed
      cases rd_inj r2 r2' (by intros; simp) (by intros; simp)
      rw [q] at q'; exact Option.some.inj q'
  | key f =>
    obtain ⟨a, fs, e, r, q⟩ := h
    obtain ⟨a', fs', e', r', q'⟩ := h'
    rw [e] at e'; cases e'
    cases rd_inj r r' (by intros; simp) (by intros; simp)
    rw [q] at q'; exact Option.some.inj q'
  | kt f =>
    obtain ⟨a, fs, e, r, q⟩ := h
    obtain ⟨a', fs', e', r', q'⟩ := h'
    rw [e] at e'; cases e'
    cases rd_inj r r' (by intros; simp) (by intros; simp)
    rw [q] at q'; exact Option.some.inj q'
  | ix n =>
    obtain ⟨a, xs, e, r, q⟩ := h
    obtain ⟨a', xs', e', r', q'⟩ := h'
    rw [e] at e'; cases e'
    have : xs = xs' := by
      rcases r with r | r <;> rcases r' with r' | r' <;> cases rd_inj r r' (by intros; simp) (by intros; simp)
      · rfl
      · rfl
    subst this
    rw [q] at q'; exact Option.some.inj q'
theorem VP.inj {H : Hp} : ∀ {π : Pth} {v x y : V}, VP H v π x → VP H v π y → x = y
  | [], v, x, y, h, h' => by rw [show x = v from h, show y = v from h']
  | s :: π, v, x, y, ⟨a, h1, h2⟩, ⟨b, h3, h4⟩ => by
    have e := h1.inj h3
    subst e
    exact VP.inj h2 h4
def topF : D → Option Fl
  | .lst f _ => some f | .dk f _ => some f | .dt f _ => some f | .ins f _ _ => some f
  | _ => none
theorem topF_ni {d : D} {f : Fl} (h : topF d = some f) : imm d = false := by
  cases d <;> first | rfl | (simp [topF] at h)
section
variable {X : Kx} {p : Par} {lk : List Addr} {L : Lk} {σ : L2.St} {H : Hp} {e : Env} {st0 front : Stk} {ws : List Wk} {S : Addr → Prop} {G : Hp} {A B : List Addr}
theorem lockAll_vp {L : Lk} {G : Hp} (k : LkOk L G) {π : Pth} {v x : V} (h : VP G v π x) : VP (lockAll L G) v π x := h.mono fun _ _ => lockAll_rd k
/-- the object at a, own, is changed -/
theorem Gd.change (g : Gd X p lk L σ H e (front ++ st0) ws) {i : Nat} {d d0 : D} {π : Pth} (h : e[i]? = some (some d)) (hp : getP d π = some d0) (ho : topF d0 = some .own) {x : V} (hx : PlV σ H i π x) (hw : ∀ w ∈ ws, w.imm = true) :
    ∃ a u, x = .ref a ∧ H a = some u ∧ Mut (some u) ∧ (∀ v, p.io = some v → ∀ w, σ[0]? = some w → w = some v) ∧
      ∃ (z : Zo) (G : Hp) (A0 B1 : List Addr), z.K = X.K ∧ z.gm = X.mg ∧ a ∉ z.lk ∧ G a = some u ∧ Rp z G (.v (.ref a) d0) A0 ∧ RpS z G front B1 ∧ (A0 ++ B1).Nodup ∧
      ∀ (u' : HO) (d' : D) (back : Stk) (C A0' B1' : List Addr),
        (∀ (G' : Hp), G' a = some u' → (∀ g A, Rp z G g A → a ∉ A → Rp z G' g A) → Rp z G' (.v (.ref a) d') A0' ∧ RpS z G' back B1') → (A0 ++ B1).Perm (C ++ (A0' ++ B1')) → (∀ x w, u' ≠ .frz x w) →
        Gd X p lk L σ (upd H a u') (e.set i (some (setP d π d'))) (back ++ st0) ws ∧ PlV σ (upd H a u') i π (.ref a) := by
  obtain ⟨S, G, A, B, g⟩ := g
  obtain ⟨v, A1, A2, h1, h2, h3, h4⟩ := g.env.split h
  obtain ⟨v0, A0, A1r, k1, k2, k3, k4⟩ := h2.focP hp
  obtain ⟨B1, B2, s1, s2, rfl⟩ := RpS.unappend g.stk
  -- the address
  have hxv : x = v0 := by
    obtain ⟨v', e1, e2⟩ := hx
    rw [h1] at e1; cases e1
    rw [g.hL] at e2
    exact e2.inj (lockAll_vp g.lkd k1)
  subst hxv
  have own : ∃ a u, x = .ref a ∧ G a = some u ∧ Mut (some u) ∧ a ∈ A0 ∧ a ∉ lk := by
    cases k2 with
    | @lst f a xs ds C at0 o r => cases ho; exact ⟨a, _, rfl, at0, trivial, by simp [FlA], o⟩
    | @dk f a xs ds C at0 o n r => cases ho; exact ⟨a, _, rfl, at0, trivial, by simp [FlA], o⟩
    | @dt f a xs ds C at0 o n r => cases ho; exact ⟨a, _, rfl, at0, trivial, by simp [FlA], o⟩
    | @ins f a C' dx c fs es C at0 o q r => cases ho; exact ⟨a, _, rfl, at0, trivial, by simp [FlA], o⟩
    | _ => simp [topF] at ho
  obtain ⟨a, u, rfl, hG, hM, haA, hlk⟩ := own
  -- all the addresses
  have hall : (A ++ (B1 ++ B2)).Perm ((A0 ++ B1) ++ (A1r ++ (A2 ++ B2))) := by
    refine (List.Perm.append_right _ (h3.trans (List.Perm.append_right _ k3))).trans ?_
    exact List.perm_iff_count.mpr fun x => by simp only [List.count_append]; omega
  have hnd := hall.nodup_iff.mp g.nd
  have nd1 := (List.nodup_append.mp hnd).1
  have rest : a ∉ A1r ++ (A2 ++ B2) := fun z => (List.nodup_append.mp hnd).2.2 a (List.mem_append_left _ haA) a z rfl
  have mem : ∀ b ∈ (A0 ++ B1) ++ (A1r ++ (A2 ++ B2)), b ∈ A ++ (B1 ++ B2) := fun b hb => hall.mem_iff.mpr hb
  have haAll : a ∈ A ++ (B1 ++ B2) := mem a (List.mem_append_left _ (List.mem_append_left _ haA))
  have hL : L.lo.lookup a = none := by
    cases q : L.lo.lookup a with
    | none => rfl
    | some od =>
      rcases g.lkz a od q with z | z | z
      · exact absurd z (g.dj a haAll).1
      · exact absurd z (g.dj a haAll).2
      · exact absurd z hlk
  refine ⟨a, u, rfl, by rw [g.hL]; exact lockAll_free g.lkd hL hG, hM, fun v' hv w' hw' => ?_, zo X p S lk, G, A0, B1, rfl, rfl, hlk, hG, k2, s1, nd1, fun u' d' back C A0' B1' mk hC nfz => ?_⟩
  · rw [g.pin v' hv] at hw'; exact (Option.some.inj hw').symm
  -- the new heap
  have neS : ∀ b, S b → b ≠ a := fun b hb z => (g.dj a haAll).1 (z ▸ hb)
  have neR : ∀ b, p.R0 b → b ≠ a := fun b hb z => (g.dj a haAll).2 (z ▸ hb)
  have kh : HLe (zo X p S lk) G (upd G a u') := ⟨fun b w r => rd_upd_mut (fun z => by subst z; have := rd_fun r hG hM; subst this; exact hM) r, fun b w _ hb r => rd_upd_mut (neS b hb) r, fun b w _ hb r => rd_upd_mut (neR b hb) r⟩
  have keep : ∀ (g' : Sg) (A' : List Addr), Rp (zo X p S lk) G g' A' → a ∉ A' → Rp (zo X p S lk) (upd G a u') g' A' := fun g' A' r ha => r.mono (.refl _) kh fun b hb => upd_ne fun z => ha (z ▸ hb)
  obtain ⟨m1, m2⟩ := mk (upd G a u') upd_same keep
  obtain ⟨A1', q1, q2, w1⟩ := k4 (zo X p S lk) (upd G a u') d' A0' (.refl _) kh (fun b hb => upd_ne fun z => rest (List.mem_append_left _ (z ▸ hb))) m1
  have r2 : RpE (zo X p S lk) (upd G a u') σ (e.set i none) A2 := h4.mono (.refl _) kh fun b hb => upd_ne fun z => rest (List.mem_append_right _ (List.mem_append_left _ (z ▸ hb)))
  have hlen : i < e.length := (List.getElem?_eq_some_iff.mp h).1
  obtain ⟨A3, t1, t2⟩ := r2.put (List.getElem?_set_self hlen) q1
  rw [List.set_set] at t1
  have e1 : σ.set i (some v) = σ := by
    apply List.ext_getElem?
    intro j
    by_cases hj : j = i
    · subst hj; rw [List.getElem?_set_self (List.getElem?_eq_some_iff.mp h1).1, h1]
    · rw [List.getElem?_set_ne (Ne.symm hj)]
  rw [e1] at t1
  have s2' : RpS (zo X p S lk) (upd G a u') st0 B2 := s2.mono (.refl _) kh fun b hb => upd_ne fun z => rest (List.mem_append_right _ (List.mem_append_right _ (z ▸ hb)))
  have fin : ((A0' ++ B1') ++ (A1r ++ (A2 ++ B2))).Perm (A3 ++ (B1' ++ B2)) := by
    have p1 : A3.Perm (A0' ++ (A1r ++ A2)) := t2.trans (by rw [← List.append_assoc]; exact List.Perm.append_right _ q2)
    refine List.Perm.symm ((List.Perm.append_right _ p1).trans ?_)
    exact List.perm_iff_count.mpr fun x => by simp only [List.count_append]; omega
  have big : ((A0 ++ B1) ++ (A1r ++ (A2 ++ B2))).Perm (C ++ (A3 ++ (B1' ++ B2))) := by
    refine (List.Perm.append_right _ hC).trans ?_
    rw [List.append_assoc]
    exact List.Perm.append_left _ fin
  have sub : ∀ b ∈ A3 ++ (B1' ++ B2), b ∈ A ++ (B1 ++ B2) := fun b hb => mem b (big.mem_iff.mpr (List.mem_append_right _ hb))
  have kd : ∀ b, (∃ w, G b = some w) → ∃ w, upd G a u' b = some w := fun b ⟨w, q⟩ => by
    by_cases z : b = a
    · subst z; exact ⟨_, upd_same⟩
    · exact ⟨w, by rw [upd_ne z]; exact q⟩
  have keyL : LkOk L (upd G a u') := by
    refine ⟨fun b od q => ?_, fun b o q => ?_⟩
    · obtain ⟨w, hw1, hw2⟩ := g.lkd.lo b od q
      exact ⟨w, by rw [upd_ne (fun z => by subst z; rw [hL] at q; cases q)]; exact hw1, hw2⟩
    · obtain ⟨h1, h2⟩ := g.lkd.hd b o q
      exact ⟨by rw [upd_ne fun z => by subst z; rw [hG] at h1; cases h1]; exact h1, h2⟩
  have hH' : upd H a u' = lockAll L (upd G a u') := by rw [g.hL, lockAll_upd hL (g.lkd.nohd hG)]
  refine ⟨?_, v, h1, by rw [hH']; exact lockAll_vp keyL w1⟩
  refine ⟨S, upd G a u', A3, B1' ++ B2, ⟨g.ok, hH', keyL, g.lkz, fun b hb => kd b (g.lke b hb), t1, m2.append s2', fun w hw' => ?_, ?_, fun b hb => g.dj b (sub b hb), fun b hb => g.ow b (sub b hb), g.s0, fun b hb => ⟨(g.sd b hb).1, kd b (g.sd b hb).2⟩, fun b w q hO => ?_, fun b hb => kd b (g.oo b hb), g.pin, fun b hb x w => ?_⟩⟩
  · have hi := hw w hw'
    have hk := g.wk w hw'
    cases w with
    | p => cases hi
    | v w1 w2 =>
      have r := Rp.ofImm (z' := zo X p S lk) hk rfl rfl hi
      have r' := keep _ _ r.1 (by simp)
      exact (r'.ofImm (z' := zW X.K X.mg (upd G a u')) rfl rfl hi).1
  · exact (List.nodup_append.mp (big.nodup_iff.mp hnd)).2.1
  · have hb : b ≠ a := by
      rintro rfl
      rcases g.ow b haAll with z | z
      · rw [z] at q; cases q
      · exact hO z
    rw [upd_ne hb]; exact g.fr b w q hO
  · by_cases z : b = a
    · subst z; rw [upd_same]; exact fun z => nfz x w (Option.some.inj z)
    · rw [upd_ne z]; exact g.nf b hb x w
end
end DG

set_option Elab.async false
set_option linter.all false
set_option maxHeartbeats 4000000
/-! DGf: what a piece of the little Python does to the slots (M), and the readings made of it (tV, tW, tT). -/
namespace DG
open PySem PySem.Spec PyProof.Rows L2
set_option autoImplicit false
inductive Res (α : Type) where
  | ok (a : α) (e : Env)
  | exc (c : Str) (fs : List (Str × D)) (e : Env)
  | bad
abbrev M (α : Type) := Env → Res α
def Res.run {α : Type} (r : Res α) (ok : α → Env → Prop) (ex : Str → List (Str × D) → Env → Prop) : Prop := match r with
  | .ok a e => ok a e
  | .exc c fs e => ex c fs e
  | .bad => False
def M.ret {α : Type} (a : α) : M α := fun e => .ok a e
def M.bad {α : Type} : M α := fun _ => .bad
def M.bind {α β : Type} (f : M α) (g : α → M β) : M β := fun e => match f e with
  | .ok a e' => g a e'
  | .exc c fs e' => .exc c fs e'
  | .bad => .bad
def M.opt {α : Type} : Option α → M α
  | some a => .ret a
  | none => .bad
abbrev WX := Value → Option Addr → L2.St → Hp → Prop
/-- an exception of the class called c, with the fields fs -/
def ExG (X : Kx) (p : Par) (lk : List Addr) (L : Lk) (σ : L2.St) (H : Hp) (e : Env) (st : Stk) (c : Str) (fs : List (Str × D)) (cls : Value) (d : Option Addr) : Prop :=
  X.mg c = some cls ∧ ((fs = [] ∧ d = none ∧ Gd X p lk L σ H e st []) ∨
    ∃ dd fv, d = some dd ∧ p.H0 dd = none ∧ H dd = some (.xd fv) ∧ fv.map (·.1) = fs.map (·.1) ∧ Gd X p lk L σ H e ((fv.map (·.2)).zip (fs.map (·.2)) ++ st) [])
section
variable (X : Kx) (p : Par) (W : WX)
def XW (lk : List Addr) (L : Lk) (σ : L2.St) (st : Stk) : Str → List (Str × D) → Env → Prop := fun c fs e' => ∀ cls d H', ExG X p lk L σ H' e' st c fs cls d → W cls d σ H'
def tR {α : Type} (f : M α) (σ : L2.St) (H : Hp) (post : List Addr → Lk → Env → Stk → List Wk → α → Prop) : Prop :=
  ∃ lk L e st ws, Gd X p lk L σ H e st ws ∧ (f e).run (fun a e' => post lk L e' st ws a) (XW X p W lk L σ st)
def tV (f : M D) : TE := fun σ H Q => tR X p W f σ H fun lk L e st ws d => ∀ v H', Gd X p lk L σ H' e ((v, d) :: st) ws → Q v H'
def tW (f : M D) : TE := fun σ H Q => tR X p W f σ H fun lk L e st ws d => ∀ v H', Gd X p lk L σ H' e st (.v v d :: ws) → Q v H'
def tT (f : M Bool) : TT := fun σ H Q => tR X p W f σ H fun lk L e st ws b => ∀ H', Gd X p lk L σ H' e st ws → Q b H'
/-- arguments: strong, in front of the pending ones -/
def tAV (f : M (List D)) : TA := fun σ H Q => tR X p W f σ H fun lk L e st ws ds => ∀ vs H', vs.length = ds.length → Gd X p lk L σ H' e (vs.zip ds ++ st) ws → Q vs H'
def tAW (f : M (List D)) : TA := fun σ H Q => tR X p W f σ H fun lk L e st ws ds => ∀ vs H', vs.length = ds.length → Gd X p lk L σ H' e st ((vs.zip ds).map (fun q => .v q.1 q.2) ++ ws) → Q vs H'
end
section
variable {X : Cx} {p : Par} {W : WX}
theorem PEmono {e : Expr} {t t' : TE} (h : PE X e t) (k : ∀ σ H Q, t' σ H Q → t σ H Q) : PE X e t' := ⟨fun pins s σ H Q I q => h.run pins s σ H Q I (k σ H Q q)⟩
theorem PTmono {e : Expr} {t t' : TT} (h : PT X e t) (k : ∀ σ H Q, t' σ H Q → t σ H Q) : PT X e t' := ⟨fun pins s σ H Q I q => h.run pins s σ H Q I (k σ H Q q)⟩
theorem PAmono {es : List Expr} {t t' : TA} (h : PA X es t) (k : ∀ σ H Q, t' σ H Q → t σ H Q) : PA X es t' := ⟨fun pos pins s σ H Q I q => h.run pos pins s σ H Q I (k σ H Q q)⟩
/-- one after the other -/
theorem tR_bind {α β : Type} {f : M α} {g : α → M β} {σ : L2.St} {H : Hp} {post : List Addr → Lk → Env → Stk → List Wk → β → Prop} (h : tR X p W (f.bind g) σ H post) :
    tR X p W f σ H fun lk L e st ws a => (g a e).run (fun b e' => post lk L e' st ws b) (XW X p W lk L σ st) := by
  obtain ⟨lk, L, e, st, ws, gd, h⟩ := h
  refine ⟨lk, L, e, st, ws, gd, ?_⟩
  unfold M.bind at h
  cases hf : f e with
  | ok a e' => rw [hf] at h; exact h
  | exc c fs e' => rw [hf] at h; exact h
  | bad => rw [hf] at h; exact h
theorem tR_mono {α : Type} {f : M α} {σ : L2.St} {H : Hp} {post post' : List Addr → Lk → Env → Stk → List Wk → α → Prop} (h : tR X p W f σ H post) (k : ∀ lk L e st ws a, post lk L e st ws a → post' lk L e st ws a) : tR X p W f σ H post' := by
  obtain ⟨lk, L, e, st, ws, gd, h⟩ := h
  refine ⟨lk, L, e, st, ws, gd, ?_⟩
  cases hf : f e with
  | ok a e' => rw [hf] at h; exact k _ _ _ _ _ _ h
  | exc c fs e' => rw [hf] at h; exact h
  | bad => rw [hf] at h; exact h
/-- .. ended by a wanted value -/
theorem tR_opt {α β : Type} {f : M α} {g : α → Option β} {σ : L2.St} {H : Hp} {post : List Addr → Lk → Env → Stk → List Wk → β → Prop} (h : tR X p W (f.bind fun a => .opt (g a)) σ H post) :
    tR X p W f σ H fun lk L e st ws a => ∃ b, g a = some b ∧ post lk L e st ws b := by
  refine tR_mono (tR_bind h) fun lk L e st ws a q => ?_
  cases hg : g a with
  | none => rw [hg] at q; exact False.elim q
  | some b => rw [hg] at q; exact ⟨b, rfl, q⟩
/-- a value as it is to be read in the heap that runs -/
def Wr (X : Kx) (H : Hp) (v : V) (d : D) : Prop := Rp (zW X.K X.mg H) H (.v v d) []
theorem Gd.wr {lk : List Addr} {L : Lk} {σ : L2.St} {H : Hp} {e : Env} {st : Stk} {ws : List Wk} {v : V} {d : D} (g : Gd X p lk L σ H e st ws) (h : .v v d ∈ ws) : Wr X H v d := by
  obtain ⟨S, G, A, B, g⟩ := g
  have r : Rp (zW X.K X.mg G) G (.v v d) [] := g.wk _ h
  rw [g.hL]
  exact r.wmono rfl fun _ _ => lockAll_rd g.lkd
theorem Gd.pl {lk : List Addr} {L : Lk} {σ : L2.St} {H : Hp} {e : Env} {st : Stk} {ws : List Wk} {i : Nat} {π : Pth} {x : V} (g : Gd X p lk L σ H e st ws) (h : .p i π x ∈ ws) : PlV σ H i π x := by
  obtain ⟨S, G, A, B, g⟩ := g
  have r : i ∈ p.nl ∧ PlV σ G i π x := g.wk _ h
  rw [g.hL]
  exact r.2.mono fun _ _ => lockAll_rd g.lkd
/-! ### from strong to weak, and back -/
theorem pe_weak {e : Expr} {f : M D} (h : PE X e (tV X p W f)) : PE X e (tW X p W (f.bind fun d => .ret (lend d))) :=
  PEmono h fun σ H Q q => tR_mono (tR_bind q) fun lk L e st ws d q v H' g => q v H' g.weaken
def immM (d : D) : M D := if imm d then .ret d else .bad
theorem pe_strong {e : Expr} {f : M D} (h : PE X e (tW X p W f)) : PE X e (tV X p W (f.bind immM)) :=
  PEmono h fun σ H Q q => tR_mono (tR_bind q) fun lk L e st ws d q v H' g => by
    unfold immM at q
    cases hi : imm d with
    | false => rw [hi] at q; exact False.elim q
    | true => rw [hi] at q; exact q v H' (g.strong hi)
/-! ### names and constants -/
def slotM (i : Nat) : M D := fun e => match e[i]? with
  | some (some d) => .ok (lend d) e
  | _ => .bad
theorem pe_slotW {i : Nat} {x : Str} {pos : Pos} (hN : X.N[i]? = some x) (hv : Vis X.env.scope x) (hd : (x == ("__debug__" : Str)) = false) (hcd : (x == ("__classdict__" : Str)) = false) : PE X (.Name x pos) (tW X p W (slotM i)) :=
  PEmono (pe_var hN hv hd hcd) fun σ H Q ⟨lk, L, e, st, ws, g, q⟩ => by
    unfold slotM at q
    cases he : e[i]? with
    | none => rw [he] at q; exact False.elim q
    | some o =>
      cases o with
      | none => rw [he] at q; exact False.elim q
      | some d =>
        rw [he] at q
        obtain ⟨v, h1, h2⟩ := g.slotW he
        exact ⟨v, h1, q v H h2⟩
def slotS (io : Bool) (i : Nat) : M D := fun e => match e[i]? with
  | some (some d) => if allF noLk d then .ok (share io d) (e.set i (some (share io d))) else .bad
  | _ => .bad
theorem pe_slotS {i : Nat} {io : Bool} {x : Str} {pos : Pos} (hio : io = false → p.O = []) (hN : X.N[i]? = some x) (hv : Vis X.env.scope x) (hd : (x == ("__debug__" : Str)) = false) (hcd : (x == ("__classdict__" : Str)) = false) : PE X (.Name x pos) (tV X p W (slotS io i)) :=
  PEmono (pe_var hN hv hd hcd) fun σ H Q ⟨lk, L, e, st, ws, g, q⟩ => by
    unfold slotS at q
    cases he : e[i]? with
    | none => rw [he] at q; exact False.elim q
    | some o =>
      cases o with
      | none => rw [he] at q; exact False.elim q
      | some d =>
        rw [he] at q
        dsimp only at q
        cases hl : allF noLk d with
        | false => rw [hl] at q; exact False.elim q
        | true =>
          rw [hl] at q
          obtain ⟨v, h1, h2⟩ := g.slotS he hl hio
          exact ⟨v, h1, q v H h2⟩
def slotMv (i : Nat) : M D := fun e => match e[i]? with
  | some (some d) => .ok d (e.set i none)
  | _ => .bad
theorem pe_slotMv {i : Nat} {x : Str} {pos : Pos} (hN : X.N[i]? = some x) (hv : Vis X.env.scope x) (hd : (x == ("__debug__" : Str)) = false) (hcd : (x == ("__classdict__" : Str)) = false) : PE X (.Name x pos) (tV X p W (slotMv i)) :=
  PEmono (pe_var hN hv hd hcd) fun σ H Q ⟨lk, L, e, st, ws, g, q⟩ => by
    unfold slotMv at q
    cases he : e[i]? with
    | none => rw [he] at q; exact False.elim q
    | some o =>
      cases o with
      | none => rw [he] at q; exact False.elim q
      | some d =>
        rw [he] at q
        obtain ⟨v, h1, h2⟩ := g.slotM he
        exact ⟨v, h1, q v H h2⟩
/-- scalars -/
def vOf : D → Option V
  | .non => some .non | .bl b => some (.bl b) | .int i => some (.int i) | .str x => some (.str x) | .ty n => some (.ty n)
  | _ => none
theorem vOf_rp {d : D} {v : V} (h : vOf d = some v) (z : Zo) (G : Hp) : Rp z G (.v v d) [] := by
  cases d <;> simp only [vOf, Option.some.injEq, reduceCtorEq] at h
  · subst h; exact .non
  · subst h; exact .bl _
  · subst h; exact .int _
  · subst h; exact .str _
  · subst h; exact .ty _
theorem vOf_imm {d : D} {v : V} (h : vOf d = some v) : imm d = true := by
  cases d <;> simp only [vOf, reduceCtorEq] at h <;> rfl
theorem pe_cst {e : Expr} {v : V} {d : D} (h : PE X e (tC v)) (hv : vOf d = some v) : PE X e (tW X p W (.ret d)) :=
  PEmono h fun σ H Q ⟨lk, L, e, st, ws, g, q⟩ => q v H (g.pushW fun z G _ _ => vOf_rp hv z G)
/-! ### tests -/
/-- a value that is a bool, as a test -/
def blM (d : D) : M Bool := match d with
  | .bl b => .ret b
  | _ => .bad
theorem Wr_bl {H : Hp} {v : V} {b : Bool} (h : Wr X H v (.bl b)) : v = .bl b := by cases h; rfl
theorem Wr_int {H : Hp} {v : V} {b : Int} (h : Wr X H v (.int b)) : v = .int b := by cases h; rfl
theorem Wr_str {H : Hp} {v : V} {b : Str} (h : Wr X H v (.str b)) : v = .str b := by cases h; rfl
theorem Wr_non {H : Hp} {v : V} (h : Wr X H v .non) : v = .non := by cases h; rfl
end
end DG

set_option Elab.async false
set_option linter.all false
set_option maxHeartbeats 4000000
/-! DGg: operations that give a scalar, a new list or a new tuple. -/
namespace DG
open PySem PySem.Spec PyProof.Rows L2
set_option autoImplicit false
inductive Nw where
  | sc (d : D) | nl (ds : List D) | nt (ds : List D)
def Nw.d : Nw → D
  | .sc d => d
  | .nl ds => .lst .own ds
  | .nt ds => .tup ds
abbrev immL (ds : List D) : Bool := allFL (fun _ => false) ds
/-- a new thing is handed on -/
def NewR (X : Kx) (H : Hp) (r : Nw) (Q : VK) : Prop := match r with
  | .sc d => ∃ v, vOf d = some v ∧ Q v H
  | .nl ds => immL ds = true ∧ ∀ p xs, H p = none → Rp (zW X.K X.mg H) H (.l xs ds) [] → Q (.ref p) (upd H p (.lst xs))
  | .nt ds => immL ds = true ∧ ∀ p xs, H p = none → Rp (zW X.K X.mg H) H (.l xs ds) [] → Q (.ref p) (upd H p (.tup xs))
/-- what owns nothing leans on tuples alone -/
theorem Rp.immH {z z' : Zo} {H H' : Hp} {g : Sg} {A : List Addr} (h : Rp z H g A) (kK : z'.K = z.K) (kg : z'.gm = z.gm) (hi : allS (fun _ => false) g = true) (k : ∀ a u, Rd H a (.tup u) → Rd H' a (.tup u)) : Rp z' H' g [] := by
  induction h with
  | non => exact .non
  | bl b => exact .bl b
  | int i => exact .int i
  | str x => exact .str x
  | ty n => exact .ty n
  | fn e => exact .fn (by rw [kg]; exact e)
  | tup t _ ih => exact .tup (by rw [kK]; exact t.mono (k _)) (ih hi)
  | lst => simp [allS, allF] at hi
  | dk => simp [allS, allF] at hi
  | dt => simp [allS, allF] at hi
  | ins => simp [allS, allF] at hi
  | exc => simp [allS, allF] at hi
  | kd => simp [allS, allF] at hi
  | nil => exact .nil
  | cons _ _ i1 i2 =>
    simp only [allS, allFL, Bool.and_eq_true] at hi
    exact .cons (A := []) (B := []) (i1 hi.1) (i2 hi.2)
  | knil => exact .knil
  | kcons _ _ i1 i2 =>
    simp only [allS, allFK, Bool.and_eq_true] at hi
    exact .kcons (A := []) (B := []) (i1 hi.1) (i2 hi.2)
  | tnil => exact .tnil
  | tcons _ _ i1 i2 =>
    simp only [allS, allFT, Bool.and_eq_true] at hi
    exact .tcons (A := []) (B := []) (i1 hi.1) (i2 hi.2)
  | snil => exact .snil
  | scons _ _ i1 i2 =>
    simp only [allS, allFS, Bool.and_eq_true] at hi
    exact .scons (A := []) (B := []) (i1 hi.1) (i2 hi.2)
section
variable {X : Cx} {p : Par} {W : WX} {lk : List Addr} {L : Lk} {σ : L2.St} {H : Hp} {e : Env} {st : Stk} {ws : List Wk}
theorem zip_fst : ∀ {xs : List V} {ds : List D}, xs.length = ds.length → (xs.zip ds).map (·.1) = xs
  | [], [], _ => rfl
  | _ :: xs, _ :: ds, h => by rw [List.zip_cons_cons, List.map_cons, zip_fst (by simpa using h)]
  | [], _ :: _, h => by simp at h
  | _ :: _, [], h => by simp at h
theorem zip_snd : ∀ {xs : List V} {ds : List D}, xs.length = ds.length → (xs.zip ds).map (·.2) = ds
  | [], [], _ => rfl
  | _ :: xs, _ :: ds, h => by rw [List.zip_cons_cons, List.map_cons, zip_snd (by simpa using h)]
  | [], _ :: _, h => by simp at h
  | _ :: _, [], h => by simp at h
/-- the new thing is a pending value -/
theorem Gd.new (g : Gd X p lk L σ H e st ws) {r : Nw} {Q : VK} (hi : match r with | .sc d => (vOf d).isSome = true | .nl ds => immL ds = true | .nt ds => immL ds = true)
    (q : ∀ v H', Gd X p lk L σ H' e ((v, r.d) :: st) ws → Q v H') : NewR X H r Q := by
  cases r with
  | sc d =>
    have hi : (vOf d).isSome = true := hi
    cases hv : vOf d with
    | none => rw [hv] at hi; cases hi
    | some v => exact ⟨v, hv, q v H (g.push fun z G _ _ => vOf_rp hv z G)⟩
  | nl ds =>
    refine ⟨hi, fun a xs ha r => q _ _ ?_⟩
    refine Gd.alloc (front := []) g ha (.lst xs) (.lst .own ds) true fun z G' B kK kg hz hG k rS => ?_
    cases rS
    exact .lst (f := .own) hG hz (r.immH kK kg hi k)
  | nt ds =>
    refine ⟨hi, fun a xs ha r => q _ _ ?_⟩
    refine Gd.alloc (front := []) g ha (.tup xs) (.tup ds) false fun z G' B kK kg hz hG k rS => ?_
    cases rS
    exact .tup (.inl hG) (r.immH kK kg hi k)
def Nw.ok : Nw → Bool
  | .sc d => (vOf d).isSome
  | .nl ds => immL ds
  | .nt ds => immL ds
/-- operations by what they give -/
def OpN (X : Cx) (F : Value → Value → Sem Value) (op : D → D → Option Nw) : Prop :=
  OpR X F fun x y H Q => (∀ a o xs, H a ≠ some (.frz o (.tup xs))) ∧ ∃ dx dy r, Wr X H x dx ∧ Wr X H y dy ∧ op dx dy = some r ∧ NewR X H r Q
def CallN (X : Cx) (f : Value) (op : List D → Option Nw) : Prop :=
  CallR X f fun xs H Q => (∀ a o xs, H a ≠ some (.frz o (.tup xs))) ∧ ∃ ds r, xs.length = ds.length ∧ (∀ w ∈ xs.zip ds, Wr X H w.1 w.2) ∧ op ds = some r ∧ NewR X H r Q
def newM : Option Nw → M D
  | some r => if r.ok then .ret r.d else .bad
  | none => .bad
theorem newM_run {op : Option Nw} {Q : VK} (q : (newM op e).run (fun d e' => ∀ v H', Gd X p lk L σ H' e' ((v, d) :: st) ws → Q v H') (XW X p W lk L σ st))
    (g : Gd X p lk L σ H e st ws) : ∃ r, op = some r ∧ NewR X H r Q := by
  unfold newM at q
  cases hop : op with
  | none => rw [hop] at q; exact False.elim q
  | some r =>
    rw [hop] at q
    dsimp only at q
    by_cases hok : r.ok = true
    · rw [if_pos hok] at q
      exact ⟨r, rfl, Gd.new g (by cases r <;> exact hok) q⟩
    · rw [if_neg hok] at q; exact False.elim q
def binN (op : D → D → Option Nw) (f g : M D) : M D := f.bind fun a => g.bind fun b => newM (op a b)
/-- two weak values, then what is made of them -/
theorem two_of {α : Type} {a b : TE} {f g : M D} {k : D → D → M α} {R : V → V → Hp → Prop} {σ : L2.St} {post : List Addr → Lk → Env → Stk → List Wk → α → Prop} (h : tR X p W (f.bind fun x => g.bind fun y => k x y) σ H post)
    (ha : ∀ Q, tW X p W f σ H Q → a σ H Q) (hb : ∀ H Q, tW X p W g σ H Q → b σ H Q)
    (hr : ∀ (lk : List Addr) (L : Lk) (e : Env) (st : Stk) (ws : List Wk) (x y : V) (dx dy : D) (H : Hp), Gd X p lk L σ H e st (.v y dy :: .v x dx :: ws) →
      (k dx dy e).run (fun r e' => post lk L e' st ws r) (XW X p W lk L σ st) → R x y H) :
    a σ H fun x H1 => b σ H1 fun y H2 => R x y H2 := by
  refine ha _ (tR_mono (tR_bind h) fun lk L e st ws d q v H1 g1 => hb _ _ ?_)
  refine ⟨lk, L, e, st, .v v d :: ws, g1, ?_⟩
  unfold M.bind at q
  cases hg : g e with
  | ok b e' =>
    rw [hg] at q
    exact fun v' H2 g2 => hr lk L e' st ws v v' d b H2 g2 q
  | exc => rw [hg] at q; exact q
  | bad => rw [hg] at q; exact q
/-- .. in a rule for an operator -/
theorem pe_binN {a b : Expr} {op : Operator} {pos : Pos} {opD : D → D → Option Nw} {f g : M D} (ho : OpN X (binaryOp op) opD) (ha : PE X a (tW X p W f)) (hb : PE X b (tW X p W g)) : PE X (.BinOp a op b pos) (tV X p W (binN opD f g)) :=
  PEmono (pe_op ho ha hb) fun σ H Q h => two_of (k := fun x y => newM (opD x y)) h (fun _ q => q) (fun _ _ q => q) fun lk L e st ws x y dx dy H g q => by
    obtain ⟨r, hop, hn⟩ := newM_run q (g.subW fun w hw => List.mem_cons_of_mem _ (List.mem_cons_of_mem _ hw))
    exact ⟨g.nft, dx, dy, r, g.wr (List.mem_cons_of_mem _ List.mem_cons_self), g.wr List.mem_cons_self, hop, hn⟩
theorem pe_cmpN {a b : Expr} {op : CmpOp} {pos : Pos} {opD : D → D → Option Nw} {f g : M D} (ho : OpN X (compareOp op) opD) (ha : PE X a (tW X p W f)) (hb : PE X b (tW X p W g)) (hm : behindInMarks op b = false) : PE X (.Compare a [op] [b] pos) (tV X p W (binN opD f g)) :=
  PEmono (pe_cmpR ho ha hb hm) fun σ H Q h => two_of (k := fun x y => newM (opD x y)) h (fun _ q => q) (fun _ _ q => q) fun lk L e st ws x y dx dy H g q => by
    obtain ⟨r, hop, hn⟩ := newM_run q (g.subW fun w hw => List.mem_cons_of_mem _ (List.mem_cons_of_mem _ hw))
    exact ⟨g.nft, dx, dy, r, g.wr (List.mem_cons_of_mem _ List.mem_cons_self), g.wr List.mem_cons_self, hop, hn⟩
end
/-! ### ints, texts, lists -/
section
variable {X : Cx}
theorem Rp.lst_inv {z : Zo} {H : Hp} {v : V} {f : Fl} {ds : List D} {A : List Addr} (h : Rp z H (.v v (.lst f ds)) A) : ∃ a xs B, v = .ref a ∧ At H f a (.lst xs) ∧ FlOk z a f ∧ Rp z H (.l xs ds) B ∧ A = FlA f a ++ B := by
  cases h with
  | lst a o r => exact ⟨_, _, _, rfl, a, o, r, rfl⟩
theorem Rp.tup_inv {z : Zo} {H : Hp} {v : V} {ds : List D} {A : List Addr} (h : Rp z H (.v v (.tup ds)) A) : ∃ a xs, v = .ref a ∧ TupAt z.K H a xs ds ∧ Rp z H (.l xs ds) A := by
  cases h with
  | tup t r => exact ⟨_, _, rfl, t, r⟩
theorem Rp.dk_inv {z : Zo} {H : Hp} {v : V} {f : Fl} {ds : List (Key × D)} {A : List Addr} (h : Rp z H (.v v (.dk f ds)) A) : ∃ a xs B, v = .ref a ∧ At H f a (.dK xs) ∧ FlOk z a f ∧ (ds.map (·.1)).Nodup ∧ Rp z H (.k xs ds) B ∧ A = FlA f a ++ B := by
  cases h with
  | dk a o n r => exact ⟨_, _, _, rfl, a, o, n, r, rfl⟩
theorem Rp.dt_inv {z : Zo} {H : Hp} {v : V} {f : Fl} {ds : List (List Key × D)} {A : List Addr} (h : Rp z H (.v v (.dt f ds)) A) : ∃ a xs B, v = .ref a ∧ At H f a (.dT xs) ∧ FlOk z a f ∧ (ds.map (·.1)).Nodup ∧ Rp z H (.t xs ds) B ∧ A = FlA f a ++ B := by
  cases h with
  | dt a o n r => exact ⟨_, _, _, rfl, a, o, n, r, rfl⟩
theorem Rp.ins_inv {z : Zo} {H : Hp} {v : V} {f : Fl} {c : Str} {fs : List (Str × D)} {A : List Addr} (h : Rp z H (.v v (.ins f c fs)) A) : ∃ a C dx xs B, v = .ref a ∧ At H f a (.ins C dx xs) ∧ FlOk z a f ∧ z.gm c = some (.ref C) ∧ Rp z H (.s xs fs) B ∧ A = FlA f a ++ B := by
  cases h with
  | ins a o e r => exact ⟨_, _, _, _, _, rfl, a, o, e, r, rfl⟩
theorem Wr_lst {H : Hp} {v : V} {f : Fl} {ds : List D} (h : Wr X H v (.lst f ds)) : ∃ a xs, v = .ref a ∧ Rd H a (.lst xs) ∧ Rp (zW X.K X.mg H) H (.l xs ds) [] := by
  obtain ⟨a, xs, B, e, at0, o, r, q⟩ := h.lst_inv
  have e2 : B = [] := (List.append_eq_nil_iff.mp q.symm).2
  subst e2
  exact ⟨a, xs, e, at0.rd, r⟩
theorem Wr_tup {H : Hp} {v : V} {ds : List D} (h : Wr X H v (.tup ds)) : ∃ a xs, v = .ref a ∧ SqT X.K H a xs ∧ Rp (zW X.K X.mg H) H (.l xs ds) [] := by
  obtain ⟨a, xs, e, t, r⟩ := h.tup_inv
  exact ⟨a, xs, e, t.seq, r⟩
theorem Rp.appNil {z : Zo} {H : Hp} {xs ys : List V} {ds es : List D} (h : Rp z H (.l xs ds) []) (h' : Rp z H (.l ys es) []) : Rp z H (.l (xs ++ ys) (ds ++ es)) [] := h.appL h'
theorem op_catR : OpR X (binaryOp .Add) (fun x y H Q => ∃ l b xs zs, x = .ref l ∧ y = .ref b ∧ Rd H l (.lst xs) ∧ Rd H b (.lst zs) ∧ xs.length + zs.length ≤ sizeLine ∧ ∀ p, H p = none → Q (.ref p) (upd H p (.lst (xs ++ zs)))) := by
  intro pins s σ H x y v u Q I rx ry h
  obtain ⟨l, b, xs, zs, rfl, rfl, hH, hB, hz, q⟩ := h
  cases rx
  cases ry
  obtain ⟨z, its, n, r, e⟩ := hH.ok I.hok
  obtain ⟨z2, its2, n2, r2, e2⟩ := hB.ok I.hok
  have hl := r.length
  have hl2 := r2.length
  refine PySem.P.add_list e e2 ?_ (by rw [List.size_toArray, List.size_toArray]; omega)
  have ea : its.toArray ++ its2.toArray = (its ++ its2).toArray := by simp
  rw [ea]
  exact ⟨.ref _, _, I.lnew (t' := s.toks) (r.append r2) (by rw [List.length_append]; omega), rfl, q _ I.fresh⟩
def addD : D → D → Option Nw
  | .int i, .int j => some (.sc (.int (i + j)))
  | .str x, .str y => if x.length + y.length ≤ sizeLine then some (.sc (.str (x ++ y))) else none
  | .lst _ as, .lst _ bs => if as.length + bs.length ≤ sizeLine ∧ immL (as ++ bs) = true then some (.nl (as ++ bs)) else none
  | _, _ => none
theorem OpN.of {F : Value → Value → Sem Value} {op : D → D → Option Nw} {r : R2} (h : OpR X F r) (k : ∀ x y H Q dx dy n, Wr X H x dx → Wr X H y dy → op dx dy = some n → NewR X H n Q → r x y H Q) : OpN X F op := by
  intro pins s σ H x y v u Q I rx ry ⟨_, dx, dy, n, w1, w2, ho, q⟩
  exact h pins s σ H x y v u Q I rx ry (k x y H Q dx dy n w1 w2 ho q)
theorem OpN.of' {F : Value → Value → Sem Value} {op : D → D → Option Nw} {r : R2} (h : OpR X F r) (k : ∀ x y H Q dx dy n, (∀ a o xs, H a ≠ some (.frz o (.tup xs))) → Wr X H x dx → Wr X H y dy → op dx dy = some n → NewR X H n Q → r x y H Q) : OpN X F op := by
  intro pins s σ H x y v u Q I rx ry ⟨nf, dx, dy, n, w1, w2, ho, q⟩
  exact h pins s σ H x y v u Q I rx ry (k x y H Q dx dy n nf w1 w2 ho q)
theorem on_add : OpN X (binaryOp .Add) addD := by
  refine .of ((op_add.or op_add_str).or op_catR) fun x y H Q dx dy n w1 w2 ho q => ?_
  cases dx <;> cases dy <;> simp only [addD, Option.some.injEq, reduceCtorEq] at ho
  · subst ho
    cases Wr_int w1
    cases Wr_int w2
    obtain ⟨v, hv, q⟩ := q
    cases hv
    exact .inl (.inl ⟨_, _, rfl, rfl, q⟩)
  · split at ho
    · rename_i hz
      cases ho
      cases Wr_str w1
      cases Wr_str w2
      obtain ⟨v, hv, q⟩ := q
      cases hv
      exact .inl (.inr ⟨_, _, rfl, rfl, hz, q⟩)
    · cases ho
  · split at ho
    · rename_i hz
      cases ho
      obtain ⟨a, xs, rfl, r1, p1⟩ := Wr_lst w1
      obtain ⟨b, ys, rfl, r2, p2⟩ := Wr_lst w2
      refine .inr ⟨a, b, xs, ys, rfl, rfl, r1, r2, by rw [p1.lenL, p2.lenL]; exact hz.1, fun p hp => q.2 p _ hp (p1.appNil p2)⟩
    · cases ho
def subD : D → D → Option Nw
  | .int i, .int j => some (.sc (.int (i - j)))
  | _, _ => none
def mulD : D → D → Option Nw
  | .int i, .int j => if (-(2 ^ 64) < i ∧ i < 2 ^ 64) ∨ (-(2 ^ 64) < j ∧ j < 2 ^ 64) then some (.sc (.int (i * j))) else none
  | _, _ => none
def fdivD : D → D → Option Nw
  | .int i, .int j => if 0 < j ∧ j < 1073741824 then some (.sc (.int (i / j))) else none
  | _, _ => none
def modD : D → D → Option Nw
  | .int i, .int j => if 0 < j then some (.sc (.int (i % j))) else none
  | _, _ => none
theorem on_int {F : Value → Value → Sem Value} {op : D → D → Option Nw} {C : Int → Int → Prop} {f : Int → Int → D} {gv : Int → Int → V} (h : OpR X F (rI C gv)) (hv : ∀ i j, vOf (f i j) = some (gv i j))
    (ho : ∀ dx dy n, op dx dy = some n → ∃ i j, dx = .int i ∧ dy = .int j ∧ C i j ∧ n = .sc (f i j)) : OpN X F op := by
  refine .of h fun x y H Q dx dy n w1 w2 hop q => ?_
  obtain ⟨i, j, rfl, rfl, hc, rfl⟩ := ho dx dy n hop
  cases Wr_int w1
  cases Wr_int w2
  obtain ⟨v, e, q⟩ := q
  rw [hv] at e
  cases e
  exact ⟨i, j, rfl, rfl, hc, q⟩
theorem on_int0 {F : Value → Value → Sem Value} {op : D → D → Option Nw} {f : Int → Int → D} {gv : Int → Int → V} (h : OpR X F (rI0 gv)) (hv : ∀ i j, vOf (f i j) = some (gv i j))
    (ho : ∀ dx dy n, op dx dy = some n → ∃ i j, dx = .int i ∧ dy = .int j ∧ n = .sc (f i j)) : OpN X F op := by
  refine .of h fun x y H Q dx dy n w1 w2 hop q => ?_
  obtain ⟨i, j, rfl, rfl, rfl⟩ := ho dx dy n hop
  cases Wr_int w1
  cases Wr_int w2
  obtain ⟨v, e, q⟩ := q
  rw [hv] at e
  cases e
  exact ⟨i, j, rfl, rfl, q⟩
theorem on_sub : OpN X (binaryOp .Sub) subD := on_int0 (f := fun i j => .int (i - j)) op_sub (fun _ _ => rfl) fun dx dy n h => by
  cases dx <;> cases dy <;> simp only [subD, Option.some.injEq, reduceCtorEq] at h
  exact ⟨_, _, rfl, rfl, h.symm⟩
theorem on_mul : OpN X (binaryOp .Mult) mulD := on_int (f := fun i j => .int (i * j)) op_mul (fun _ _ => rfl) fun dx dy n h => by
  cases dx <;> cases dy <;> simp only [mulD, Option.some.injEq, reduceCtorEq, Option.ite_none_right_eq_some] at h
  exact ⟨_, _, rfl, rfl, h.1, h.2.symm⟩
theorem on_fdiv : OpN X (binaryOp .FloorDiv) fdivD := on_int (f := fun i j => .int (i / j)) op_fdiv (fun _ _ => rfl) fun dx dy n h => by
  cases dx <;> cases dy <;> simp only [fdivD, Option.some.injEq, reduceCtorEq, Option.ite_none_right_eq_some] at h
  exact ⟨_, _, rfl, rfl, h.1, h.2.symm⟩
theorem on_mod : OpN X (binaryOp .Mod) modD := on_int (f := fun i j => .int (i % j)) op_mod (fun _ _ => rfl) fun dx dy n h => by
  cases dx <;> cases dy <;> simp only [modD, Option.some.injEq, reduceCtorEq, Option.ite_none_right_eq_some] at h
  exact ⟨_, _, rfl, rfl, h.1, h.2.symm⟩
end
end DG

set_option Elab.async false
set_option linter.all false
set_option maxHeartbeats 4000000
/-! DGh: tests, and, or, not, displays, arguments. -/
namespace DG
open PySem PySem.Spec PyProof.Rows L2
set_option autoImplicit false
section
variable {X : Cx} {p : Par} {W : WX} {lk : List Addr} {L : Lk} {σ : L2.St} {H : Hp} {e : Env} {st : Stk} {ws : List Wk} {a b c : Expr} {pos : Pos} {f g h : M D}
/-! ### tests -/
def truD : D → Option Bool
  | .non => some false
  | .bl b => some b
  | .int i => some (i != 0)
  | .str x => if x.length ≤ sizeLine then some ((x.length : Int) != 0) else none
  | .lst _ ds => some (!ds.isEmpty)
  | .tup ds => some (!ds.isEmpty)
  | _ => none
theorem Rp.emptyL {z : Zo} {H : Hp} {xs : List V} {ds : List D} {A : List Addr} (h : Rp z H (.l xs ds) A) : xs.isEmpty = ds.isEmpty := by
  have := h.lenL
  cases xs <;> cases ds <;> simp_all
theorem truV_of {H : Hp} {v : V} {d : D} {b : Bool} (w : Wr X H v d) (h : truD d = some b) : TruV X.K v H b := by
  cases d <;> simp only [truD, Option.some.injEq, reduceCtorEq, Option.ite_none_right_eq_some] at h
  · cases Wr_non w; exact h.symm
  · cases Wr_bl w; exact h.symm
  · cases Wr_int w; exact h.symm
  · cases Wr_str w; exact ⟨h.1, h.2.symm⟩
  · obtain ⟨a, xs, rfl, t, r⟩ := Wr_tup w
    exact .inr (.inl ⟨xs, t, by rw [r.emptyL]; exact h.symm⟩)
  · obtain ⟨a, xs, rfl, t, r⟩ := Wr_lst w
    exact .inl ⟨xs, .inl t, by rw [r.emptyL]; exact h.symm⟩
def truM (d : D) : M Bool := .opt (truD d)
theorem tR_optK {α β : Type} {f : M α} {g : α → Option β} {post : List Addr → Lk → Env → Stk → List Wk → β → Prop} (h : tR X p W (f.bind fun a => .opt (g a)) σ H post) :
    tR X p W f σ H fun lk L e st ws a => ∃ b, g a = some b ∧ post lk L e st ws b := tR_opt h
theorem pt_tru (ha : PE X a (tW X p W f)) (he : ∀ whole, isTrue a X.env whole = (do let v ← whole; standAt a.pos; holding [v] (truthy v))) : PT X a (tT X p W (f.bind truM)) :=
  PTmono (pt_truth ha he) fun σ H Q q => tR_mono (tR_opt (g := truD) q) fun lk L e st ws d ⟨b, hb, q⟩ v H' g' => ⟨b, truV_of (g'.wr List.mem_cons_self) hb, q H' g'.dropW⟩
theorem pt_notM {t : M Bool} (ha : PT X a (tT X p W t)) : PT X (.UnaryOp .Not a pos) (tT X p W (t.bind fun b => .ret (!b))) :=
  PTmono (pt_not ha) fun σ H Q q => tR_mono (tR_bind q) fun lk L e st ws d q H' g' => q H' g'
def andT (t u : M Bool) : M Bool := t.bind fun b => if b then u else .ret false
def orT (t u : M Bool) : M Bool := t.bind fun b => if b then .ret true else u
theorem pw_andM {rest : List Expr} {t u : M Bool} (ha : PT X a (tT X p W t)) (hb : PW X (.BoolOp .And (b :: rest) pos) (tT X p W u)) : PW X (.BoolOp .And (a :: b :: rest) pos) (tT X p W (andT t u)) :=
  ⟨fun wh pins s σ H Q I q => (pw_and ha hb).run wh pins s σ H Q I (tR_mono (tR_bind q) fun lk L e st ws d q H' g' => by
    cases d with
    | true => rw [if_pos rfl]; exact ⟨lk, L, e, st, ws, g', q⟩
    | false => rw [if_neg Bool.false_ne_true]; exact q H' g')⟩
theorem pw_orM {rest : List Expr} {t u : M Bool} (ha : PT X a (tT X p W t)) (hb : PW X (.BoolOp .Or (b :: rest) pos) (tT X p W u)) : PW X (.BoolOp .Or (a :: b :: rest) pos) (tT X p W (orT t u)) :=
  ⟨fun wh pins s σ H Q I q => (pw_or ha hb).run wh pins s σ H Q I (tR_mono (tR_bind q) fun lk L e st ws d q H' g' => by
    cases d with
    | false => rw [if_neg Bool.false_ne_true]; exact ⟨lk, L, e, st, ws, g', q⟩
    | true => rw [if_pos rfl]; exact q H' g')⟩
/-- a bool that is a value, as a test (comparisons) -/
theorem pt_cmpM {op : CmpOp} {opD : D → D → Option Nw} (ho : OpN X (compareOp op) opD) (ha : PE X a (tW X p W f)) (hb : PE X b (tW X p W g)) (hm : behindInMarks op b = false) : PT X (.Compare a [op] [b] pos) (tT X p W ((binN opD f g).bind blM)) :=
  PTmono (pt_cmpR ho ha hb hm) fun σ H Q q => by
    have q' : tR X p W (f.bind fun x => g.bind fun y => (newM (opD x y)).bind blM) σ H (fun lk L e st ws b => ∀ H', Gd X p lk L σ H' e st ws → Q b H') := by
      obtain ⟨lk, L, e, st, ws, gd, q⟩ := q
      refine ⟨lk, L, e, st, ws, gd, ?_⟩
      have : (f.bind fun x => g.bind fun y => (newM (opD x y)).bind blM) e = ((binN opD f g).bind blM) e := by
        unfold binN M.bind
        cases f e with
        | ok a e' => dsimp only; cases g e' <;> rfl
        | exc => rfl
        | bad => rfl
      rw [this]; exact q
    refine two_of (R := fun x y H2 => (∀ a o xs, H2 a ≠ some (.frz o (.tup xs))) ∧ ∃ dx dy r, Wr X H2 x dx ∧ Wr X H2 y dy ∧ opD dx dy = some r ∧ NewR X H2 r fun x H' => ∃ k, x = .bl k ∧ Q k H') q' (fun _ q => q) (fun _ _ q => q) fun lk L e st ws x y dx dy H g q => ?_
    unfold newM at q
    cases hop : opD dx dy with
    | none => rw [hop] at q; exact False.elim q
    | some r =>
      rw [hop] at q
      dsimp only at q
      by_cases hok : r.ok = true
      · rw [if_pos hok] at q
        refine ⟨g.nft, dx, dy, r, g.wr (List.mem_cons_of_mem _ List.mem_cons_self), g.wr List.mem_cons_self, hop, ?_⟩
        cases r with
        | sc d =>
          cases d with
          | bl b => exact ⟨_, rfl, _, rfl, q H g.dropW.dropW⟩
          | _ => exact False.elim q
        | nl => exact False.elim q
        | nt => exact False.elim q
      · rw [if_neg hok] at q; exact False.elim q
/-! ### displays, arguments -/
def consM {α : Type} (f : M α) (r : M (List α)) : M (List α) := f.bind fun d => r.bind fun ds => .ret (d :: ds)
theorem pa_nilV : PA X [] (tAV X p W (.ret [])) := PAmono pa_nil fun σ H Q ⟨lk, L, e, st, ws, g, q⟩ => q [] H rfl g
theorem pa_nilW : PA X [] (tAW X p W (.ret [])) := PAmono pa_nil fun σ H Q ⟨lk, L, e, st, ws, g, q⟩ => q [] H rfl g
theorem pa_consV {es : List Expr} {r : M (List D)} (ha : PE X a (tV X p W f)) (hr : PA X es (tAV X p W r)) (hs : starEach (a :: es) X.env = (false, eval a X.env) :: starEach es X.env) : PA X (a :: es) (tAV X p W (consM f r)) :=
  PAmono (pa_cons ha hr hs) fun σ H Q q => tR_mono (tR_bind q) fun lk L e st ws d q v H1 g1 => by
    refine ⟨lk, L, e, (v, d) :: st, ws, g1, ?_⟩
    unfold M.bind at q
    cases hr : r e with
    | ok ds e' =>
      rw [hr] at q
      exact fun vs H2 hl g2 => q (v :: vs) H2 (by simp [hl]) (g2.perm (by rw [List.zip_cons_cons]; exact List.perm_middle))
    | exc c fs e' =>
      rw [hr] at q
      refine fun cls d' H' ⟨h1, h2⟩ => q cls d' H' ⟨h1, h2.elim (fun z => .inl ⟨z.1, z.2.1, z.2.2.drop⟩) fun ⟨dd, fv, z1, z0, z2, z3, z4⟩ => .inr ⟨dd, fv, z1, z0, z2, z3, ?_⟩⟩
      exact Gd.drop (w := (v, d)) (z4.perm List.perm_middle)
    | bad => rw [hr] at q; exact q
theorem pa_consW {es : List Expr} {r : M (List D)} (ha : PE X a (tW X p W f)) (hr : PA X es (tAW X p W r)) (hs : starEach (a :: es) X.env = (false, eval a X.env) :: starEach es X.env) : PA X (a :: es) (tAW X p W (consM f r)) :=
  PAmono (pa_cons ha hr hs) fun σ H Q q => tR_mono (tR_bind q) fun lk L e st ws d q v H1 g1 => by
    refine ⟨lk, L, e, st, .v v d :: ws, g1, ?_⟩
    unfold M.bind at q
    cases hr : r e with
    | ok ds e' =>
      rw [hr] at q
      refine fun vs H2 hl g2 => q (v :: vs) H2 (by simp [hl]) (g2.subW fun w hw => ?_)
      rw [List.zip_cons_cons, List.map_cons] at hw
      rcases List.mem_cons.mp hw with rfl | hw
      · exact List.mem_append_right _ List.mem_cons_self
      · rcases List.mem_append.mp hw with hw | hw
        · exact List.mem_append_left _ hw
        · exact List.mem_append_right _ (List.mem_cons_of_mem _ hw)
    | exc c fs e' => rw [hr] at q; exact q
    | bad => rw [hr] at q; exact q
def lstM (r : M (List D)) : M D := r.bind fun ds => if ds.length ≤ sizeLine then .ret (.lst .own ds) else .bad
def tupM (r : M (List D)) : M D := r.bind fun ds => if ds.length ≤ sizeLine then .ret (.tup ds) else .bad
theorem pe_lstM {es : List Expr} {r : M (List D)} (h : PA X es (tAV X p W r)) : PE X (.List es pos) (tV X p W (lstM r)) :=
  PEmono (pe_lst h) fun σ H Q q => tR_mono (tR_bind q) fun lk L e st ws ds q vs H1 hl g1 => by
    by_cases hz : ds.length ≤ sizeLine
    · rw [if_pos hz] at q
      refine ⟨by rw [hl]; exact hz, fun a ha => q _ _ (Gd.alloc g1 ha (.lst vs) (.lst .own ds) true fun z G B kK kg hlk hG k rS => ?_)⟩
      have := rS.toL
      rw [zip_fst hl, zip_snd hl] at this
      exact .lst (f := .own) hG hlk this
    · rw [if_neg hz] at q; exact False.elim q
theorem pe_tupM {es : List Expr} {x1 : Nat} {r : M (List D)} (h : PA X es (tAV X p W r)) : PE X (.Tuple es x1 pos) (tV X p W (tupM r)) :=
  PEmono (pe_tup h) fun σ H Q q => tR_mono (tR_bind q) fun lk L e st ws ds q vs H1 hl g1 => by
    by_cases hz : ds.length ≤ sizeLine
    · rw [if_pos hz] at q
      refine ⟨by rw [hl]; exact hz, fun a ha => q _ _ (Gd.alloc g1 ha (.tup vs) (.tup ds) false fun z G B kK kg hlk hG k rS => ?_)⟩
      have := rS.toL
      rw [zip_fst hl, zip_snd hl] at this
      exact .tup (.inl hG) this
    · rw [if_neg hz] at q; exact False.elim q
/-! ### built-in functions by values -/
theorem CallN.of {F : Value} {op : List D → Option Nw} {r : List V → Hp → VK → Prop} (h : CallR X F r) (k : ∀ xs H Q ds n, xs.length = ds.length → (∀ w ∈ xs.zip ds, Wr X H w.1 w.2) → op ds = some n → NewR X H n Q → r xs H Q) : CallN X F op := by
  intro pins s σ H xs us Q I rs ⟨_, ds, n, hl, hw, ho, q⟩
  exact h pins s σ H xs us Q I rs (k xs H Q ds n hl hw ho q)
def callM (op : List D → Option Nw) (r : M (List D)) : M D := r.bind fun ds => newM (op ds)
theorem wr_args {vs : List V} {ds : List D} (g : Gd X p lk L σ H e st ((vs.zip ds).map (fun q => Wk.v q.1 q.2) ++ ws)) : ∀ w ∈ vs.zip ds, Wr X H w.1 w.2 := fun w hw =>
  g.wr (List.mem_append_left _ (List.mem_map.mpr ⟨w, hw, rfl⟩))
theorem pe_callN {id : String} {x : Str} {p1 : Pos} {es : List Expr} {op : List D → Option Nw} {r : M (List D)} (hc : CallN X (.builtin id) op) (hg : Gl X x) (hm : X.mg x = none) (hv : bootBuiltins x = some (.builtin id)) (ha : PA X (a :: es) (tAW X p W r))
    (hn : x ≠ "__name__") (hdb : (x == ("__debug__" : Str)) = false) (he : starEach (a :: es) X.env = (false, eval a X.env) :: starEach es X.env) (hpl : (backTo pos (starEach es X.env)).any (·.1) = false) :
    PE X (.Call (.Name x p1) (a :: es) [] pos) (tV X p W (callM op r)) :=
  PEmono (pe_callB hc hg hm hv ha hn hdb he hpl) fun σ H Q q => tR_mono (tR_bind q) fun lk L e st ws ds q vs H1 hl g1 => by
    have g2 := g1.subW (ws' := ws) fun w hw => List.mem_append_right _ hw
    obtain ⟨n, ho, hn⟩ := newM_run q g2
    exact ⟨g1.nft, ds, n, hl, wr_args g1, ho, hn⟩
theorem pe_callTyN {id : String} {x : Str} {p1 : Pos} {es : List Expr} {op : List D → Option Nw} {r : M (List D)} (hc : CallN X (.type id) op) (hg : Gl X x) (hm : X.mg x = none) (hv : bootBuiltins x = some (.type id)) (ha : PA X (a :: es) (tAW X p W r))
    (hn : x ≠ "__name__") (hdb : (x == ("__debug__" : Str)) = false) (he : starEach (a :: es) X.env = (false, eval a X.env) :: starEach es X.env) (hpl : (backTo pos (starEach es X.env)).any (·.1) = false) :
    PE X (.Call (.Name x p1) (a :: es) [] pos) (tV X p W (callM op r)) :=
  PEmono (pe_callTy hc hg hm hv ha hn hdb he hpl) fun σ H Q q => tR_mono (tR_bind q) fun lk L e st ws ds q vs H1 hl g1 => by
    have g2 := g1.subW (ws' := ws) fun w hw => List.mem_append_right _ hw
    obtain ⟨n, ho, hn⟩ := newM_run q g2
    exact ⟨g1.nft, ds, n, hl, wr_args g1, ho, hn⟩
end
end DG

set_option Elab.async false
set_option linter.all false
set_option maxHeartbeats 4000000
/-! DGi: comparisons, subscripts, slices, the methods and functions that are built in. -/
namespace DG
open PySem PySem.Spec PyProof.Rows L2
set_option autoImplicit false
section
variable {X : Cx} {p : Par} {W : WX} {lk : List Addr} {L : Lk} {σ : L2.St} {H : Hp} {e : Env} {st : Stk} {ws : List Wk} {a b c : Expr} {pos : Pos} {f g h : M D}
/-! ### comparisons of ints; in a text; None -/
def ltD : D → D → Option Nw
  | .int i, .int j => some (.sc (.bl (decide (i < j))))
  | _, _ => none
def leD : D → D → Option Nw
  | .int i, .int j => some (.sc (.bl (decide (i ≤ j))))
  | _, _ => none
def gtD : D → D → Option Nw
  | .int i, .int j => some (.sc (.bl (decide (j < i))))
  | _, _ => none
def geD : D → D → Option Nw
  | .int i, .int j => some (.sc (.bl (decide (j ≤ i))))
  | _, _ => none
theorem on_lt : OpN X (compareOp .Lt) ltD := on_int0 (f := fun i j => .bl (decide (i < j))) op_lt (fun _ _ => rfl) fun dx dy n h => by
  cases dx <;> cases dy <;> simp only [ltD, Option.some.injEq, reduceCtorEq] at h
  exact ⟨_, _, rfl, rfl, h.symm⟩
theorem on_le : OpN X (compareOp .LtE) leD := on_int0 (f := fun i j => .bl (decide (i ≤ j))) op_le (fun _ _ => rfl) fun dx dy n h => by
  cases dx <;> cases dy <;> simp only [leD, Option.some.injEq, reduceCtorEq] at h
  exact ⟨_, _, rfl, rfl, h.symm⟩
theorem on_gt : OpN X (compareOp .Gt) gtD := on_int0 (f := fun i j => .bl (decide (j < i))) op_gt (fun _ _ => rfl) fun dx dy n h => by
  cases dx <;> cases dy <;> simp only [gtD, Option.some.injEq, reduceCtorEq] at h
  exact ⟨_, _, rfl, rfl, h.symm⟩
theorem on_ge : OpN X (compareOp .GtE) geD := on_int0 (f := fun i j => .bl (decide (j ≤ i))) op_ge (fun _ _ => rfl) fun dx dy n h => by
  cases dx <;> cases dy <;> simp only [geD, Option.some.injEq, reduceCtorEq] at h
  exact ⟨_, _, rfl, rfl, h.symm⟩
def subS (x y : Str) : Bool := !(Builtin.Str.occurrences y x 0 y.length 1).isEmpty
def isNon : D → Bool
  | .non => true
  | _ => false
theorem isNon_rp {z : Zo} {H : Hp} {v : V} {d : D} {A : List Addr} (w : Rp z H (.v v d) A) : decide (v = .non) = isNon d := by
  cases w <;> first | rfl | exact decide_eq_false (fun z => nomatch z)
theorem isNon_of {H : Hp} {v : V} {d : D} (w : Wr X H v d) : decide (v = .non) = isNon d := isNon_rp w
def isD : D → D → Option Nw
  | d, .non => some (.sc (.bl (isNon d)))
  | _, _ => none
def isnD : D → D → Option Nw
  | d, .non => some (.sc (.bl (!isNon d)))
  | _, _ => none
theorem on_is : OpN X (compareOp .Is) isD := .of op_isN fun x y H Q dx dy n w1 w2 ho q => by
  cases dy <;> simp only [isD, reduceCtorEq, Option.some.injEq] at ho
  subst ho
  cases Wr_non w2
  obtain ⟨v, hv, q⟩ := q
  cases hv
  exact ⟨rfl, by rw [isNon_of w1]; exact q⟩
theorem on_isn : OpN X (compareOp .IsNot) isnD := .of op_notN fun x y H Q dx dy n w1 w2 ho q => by
  cases dy <;> simp only [isnD, reduceCtorEq, Option.some.injEq] at ho
  subst ho
  cases Wr_non w2
  obtain ⟨v, hv, q⟩ := q
  cases hv
  exact ⟨rfl, by rw [isNon_of w1]; exact q⟩
/-! ### a chain -/
def chainM (o1 o2 : D → D → Option Nw) (f g h : M D) : M D := f.bind fun a => g.bind fun b => (newM (o1 a b)).bind fun r => match r with
  | .bl true => h.bind fun c => newM (o2 b c)
  | .bl false => .ret (.bl false)
  | _ => .bad
abbrev rN (X : Kx) (o : D → D → Option Nw) : R2 := fun x y H Q => (∀ a o xs, H a ≠ some (.frz o (.tup xs))) ∧ ∃ dx dy r, Wr X H x dx ∧ Wr X H y dy ∧ o dx dy = some r ∧ NewR X H r Q
theorem chain_imp {o1 o2 : D → D → Option Nw} {Q : VK} (q : tV X p W (chainM o1 o2 f g h) σ H Q) : tChain (rN X o1) (rN X o2) (tW X p W f) (tW X p W g) (tW X p W h) σ H Q := by
    refine two_of (R := fun x y H2 => (∀ a o xs, H2 a ≠ some (.frz o (.tup xs))) ∧ ∃ dx dy r, Wr X H2 x dx ∧ Wr X H2 y dy ∧ o1 dx dy = some r ∧ NewR X H2 r fun z H3 => ∃ k, z = .bl k ∧ (if k = true then tW X p W h σ H3 fun w' H4 => (∀ a o xs, H4 a ≠ some (.frz o (.tup xs))) ∧ ∃ dx dy r, Wr X H4 y dx ∧ Wr X H4 w' dy ∧ o2 dx dy = some r ∧ NewR X H4 r Q else Q (.bl false) H3))
      q (fun _ q => q) (fun _ _ q => q) fun lk L e st ws x y dx dy H g q => ?_
    unfold newM at q
    cases hop : o1 dx dy with
    | none => rw [hop] at q; exact False.elim q
    | some r =>
      rw [hop] at q
      dsimp only at q
      by_cases hok : r.ok = true
      · rw [if_pos hok] at q
        refine ⟨g.nft, dx, dy, r, g.wr (List.mem_cons_of_mem _ List.mem_cons_self), g.wr List.mem_cons_self, hop, ?_⟩
        cases r with
        | sc d =>
          cases d with
          | bl k =>
            cases k with
            | true =>
              refine ⟨.bl true, rfl, true, rfl, ?_⟩
              rw [if_pos rfl]
              refine ⟨lk, L, e, st, _, g, ?_⟩
              have q : ((h.bind fun c => newM (o2 dy c)) e).run (fun r e' => ∀ (v : V) (H' : Hp), Gd X p lk L σ H' e' ((v, r) :: st) ws → Q v H') (XW X p W lk L σ st) := q
              unfold M.bind at q
              cases hh : h e with
              | ok d e' =>
                rw [hh] at q
                intro v H' g'
                obtain ⟨r, h1, h2⟩ := newM_run q (g'.subW fun w hw => List.mem_cons_of_mem _ (List.mem_cons_of_mem _ (List.mem_cons_of_mem _ hw)))
                exact ⟨g'.nft, dy, d, r, g'.wr (List.mem_cons_of_mem _ List.mem_cons_self), g'.wr List.mem_cons_self, h1, h2⟩
              | exc c fs e' => rw [hh] at q; exact q
              | bad => rw [hh] at q; exact q
            | false =>
              refine ⟨.bl false, rfl, false, rfl, ?_⟩
              rw [if_neg Bool.false_ne_true]
              exact q _ _ (g.dropW.dropW.push fun z G _ _ => .bl false)
          | _ => exact False.elim q
        | nl => exact False.elim q
        | nt => exact False.elim q
      · rw [if_neg hok] at q; exact False.elim q
theorem pe_chainM {op op' : CmpOp} {o1 o2 : D → D → Option Nw} (ho : OpN X (compareOp op) o1) (ho' : OpN X (compareOp op') o2) (ha : PE X a (tW X p W f)) (hb : PE X b (tW X p W g)) (hc : PE X c (tW X p W h))
    (hm : lastMarks [op, op'] [b, c] = false) : PE X (.Compare a [op, op'] [b, c] pos) (tV X p W (chainM o1 o2 f g h)) :=
  PEmono (pe_chain ho ho' ha hb hc hm) fun σ H Q q => chain_imp q
theorem blM_imp {t : TE} {Q : Bool → Hp → Prop} (h : ∀ Q, tV X p W f σ H Q → t σ H Q) (q : tT X p W (f.bind blM) σ H Q) : tTest t σ H Q :=
  h _ (tR_mono (tR_bind q) fun lk L e st ws d q v H' g' => by
    cases d with
    | bl k =>
      have hv : v = .bl k := by
        obtain ⟨S, G, A, B, g⟩ := g'
        cases hs : g.stk with
        | cons r _ => cases r; rfl
      exact ⟨k, hv, q H' g'.drop⟩
    | _ => exact False.elim q)
theorem pt_chainM {op op' : CmpOp} {o1 o2 : D → D → Option Nw} (ho : OpN X (compareOp op) o1) (ho' : OpN X (compareOp op') o2) (ha : PE X a (tW X p W f)) (hb : PE X b (tW X p W g)) (hc : PE X c (tW X p W h))
    (hm : lastMarks [op, op'] [b, c] = false) : PT X (.Compare a [op, op'] [b, c] pos) (tT X p W ((chainM o1 o2 f g h).bind blM)) :=
  PTmono (pt_chain ho ho' ha hb hc hm) fun σ H Q q => blM_imp (fun _ q => chain_imp q) q
/-! ### items -/
theorem Gd.sub {v : V} {f : Fl} {ds : List D} (g : Gd X p lk L σ H e st ws) (h : .v v (.lst f ds) ∈ ws) : ∃ a xs, v = .ref a ∧ Rd H a (.lst xs) ∧ xs.length = ds.length ∧
    ∀ (n : Nat) d, ds[n]? = some d → ∃ x, xs[n]? = some x ∧ Gd X p lk L σ H e st (.v x d :: ws) := by
  obtain ⟨S, G, A, B, g⟩ := g
  have r : Rp (zW X.K X.mg G) G (.v v (.lst f ds)) [] := g.wk _ h
  obtain ⟨a, xs, C, rfl, at0, o, r, q⟩ := r.lst_inv
  have e2 : C = [] := (List.append_eq_nil_iff.mp q.symm).2
  subst e2
  refine ⟨a, xs, rfl, by rw [g.hL]; exact lockAll_rd g.lkd at0.rd, r.lenL, fun n d hd => ?_⟩
  obtain ⟨x, A0, A1, h1, h2, h3, _⟩ := r.focL hd
  have : A0 = [] := by
    have := h3.length_eq
    simp only [List.length_nil, List.length_append] at this
    exact List.eq_nil_of_length_eq_zero (by omega)
  subst this
  exact ⟨x, h1, S, G, A, B, g.less g.env g.stk (fun w hw => (List.mem_cons.mp hw).elim (fun z => z ▸ h2) (g.wk w)) ⟨[], .refl _⟩ g.pin⟩
theorem Gd.subT {v : V} {ds : List D} (g : Gd X p lk L σ H e st ws) (h : .v v (.tup ds) ∈ ws) : ∃ a xs, v = .ref a ∧ SqT X.K H a xs ∧ xs.length = ds.length ∧
    ∀ (n : Nat) d, ds[n]? = some d → ∃ x, xs[n]? = some x ∧ Gd X p lk L σ H e st (.v x d :: ws) := by
  obtain ⟨S, G, A, B, g⟩ := g
  have r : Rp (zW X.K X.mg G) G (.v v (.tup ds)) [] := g.wk _ h
  obtain ⟨a, xs, rfl, t, r⟩ := r.tup_inv
  refine ⟨a, xs, rfl, by rw [g.hL]; exact SqT.mono t.seq fun u => lockAll_rd g.lkd, r.lenL, fun n d hd => ?_⟩
  obtain ⟨x, A0, A1, h1, h2, h3, _⟩ := r.focL hd
  have : A0 = [] := by
    have := h3.length_eq
    simp only [List.length_nil, List.length_append] at this
    exact List.eq_nil_of_length_eq_zero (by omega)
  subst this
  exact ⟨x, h1, S, G, A, B, g.less g.env g.stk (fun w hw => (List.mem_cons.mp hw).elim (fun z => z ▸ h2) (g.wk w)) ⟨[], .refl _⟩ g.pin⟩
def ixD : D → D → Option D
  | .lst _ ds, .int i => atI ds i
  | .tup ds, .int i => atI ds i
  | .str z, .int i => if z.length ≤ sizeLine then (atI z.cps.toList i).map fun c => .str ⟨#[c]⟩ else none
  | .dk _ ks, .str x => getA ks (.inr x)
  | .dk _ ks, .int x => getA ks (.inl x)
  | _, _ => none
def subM (f g : M D) : M D := f.bind fun a => g.bind fun b => .opt (ixD a b)
theorem atI_of {α β : Type} {xs : List α} {ys : List β} {i : Int} {y : β} (h : atI ys i = some y) (hl : xs.length = ys.length) : ∃ n : Nat, ys[n]? = some y ∧ ∀ x : α, xs[n]? = some x → atI xs i = some x := by
  unfold atI at h ⊢
  rw [hl]
  cases q : ixN ys.length i with
  | none => rw [q] at h; cases h
  | some n => rw [q] at h; exact ⟨n, h, fun x hx => hx⟩
theorem PE.or {e : Expr} {t t' : TE} (h : PE X e t) (h' : PE X e t') : PE X e (fun σ H Q => t σ H Q ∨ t' σ H Q) := ⟨fun pins s σ H Q I q => q.elim (h.run pins s σ H Q I) (h'.run pins s σ H Q I)⟩
theorem Gd.subK {v : V} {f : Fl} {ks : List (Key × D)} (g : Gd X p lk L σ H e st ws) (h : .v v (.dk f ks) ∈ ws) : ∃ a xs, v = .ref a ∧ Rd H a (.dK xs) ∧ xs.map (·.1) = ks.map (·.1) ∧
    ∀ k d, getA ks k = some d → ∃ x, getA xs k = some x ∧ Gd X p lk L σ H e st (.v x d :: ws) := by
  obtain ⟨S, G, A, B, g⟩ := g
  have r : Rp (zW X.K X.mg G) G (.v v (.dk f ks)) [] := g.wk _ h
  obtain ⟨a, xs, C, rfl, at0, o, n, r, q⟩ := r.dk_inv
  have e2 : C = [] := (List.append_eq_nil_iff.mp q.symm).2
  subst e2
  refine ⟨a, xs, rfl, by rw [g.hL]; exact lockAll_rd g.lkd at0.rd, r.keysK, fun k d hd => ?_⟩
  obtain ⟨x, A0, A1, h1, h2, h3, _⟩ := r.focK hd
  have : A0 = [] := by
    have := h3.length_eq
    simp only [List.length_nil, List.length_append] at this
    exact List.eq_nil_of_length_eq_zero (by omega)
  subst this
  exact ⟨x, h1, S, G, A, B, g.less g.env g.stk (fun w hw => (List.mem_cons.mp hw).elim (fun z => z ▸ h2) (g.wk w)) ⟨[], .refl _⟩ g.pin⟩
theorem ix_dict (hu : X.A.units + 1 < cLine) : IxR X (fun x y H Q => ∃ a v, x = .ref a ∧ DGet H a y (some v) ∧ Q v H) := by
  intro value slice pins s σ H x y v u Q I rx ry h hs
  obtain ⟨a, z, rfl, g, q⟩ := h
  obtain rfl : v = Value.ref a := rx
  exact tail_any (dict_typeIs I g) PySem.F.slot_dict_getitem.lookup (d_getItem hu I g ry fun w' s3 I3 rw' => ⟨z, H, I3, rw', q⟩) hs
theorem pe_subM (hu : X.A.units + 1 < cLine) (ha : PE X a (tW X p W f)) (hb : PE X b (tW X p W g)) (hs : PlainIx b) : PE X (.Subscript a b pos) (tW X p W (subM f g)) :=
  PEmono (pe_ix (ix_seq.or (ix_dict hu)) ha hb hs) fun σ H Q q => by
      refine two_of (k := fun x y => .opt (ixD x y)) (R := fun x y H2 => rIx X.K x y H2 Q ∨ ∃ a v, x = .ref a ∧ DGet H2 a y (some v) ∧ Q v H2) q (fun _ q => q) (fun _ _ q => q) fun lk L e st ws x y dx dy H g q => ?_
      cases hx : ixD dx dy with
      | none => rw [hx] at q; exact False.elim q
      | some d =>
        rw [hx] at q
        have q : ∀ v H', Gd X p lk L σ H' e st (.v v d :: ws) → Q v H' := q
        have m1 : Wk.v x dx ∈ Wk.v y dy :: Wk.v x dx :: ws := List.mem_cons_of_mem _ List.mem_cons_self
        have wy := g.wr (v := y) (d := dy) List.mem_cons_self
        have fin : ∀ {v}, Gd X p lk L σ H e st (.v v d :: .v y dy :: .v x dx :: ws) → Q v H := fun {v} g' => q v H (g'.subW fun w hw => (List.mem_cons.mp hw).elim (fun z => z ▸ List.mem_cons_self) fun z => List.mem_cons_of_mem _ (List.mem_cons_of_mem _ (List.mem_cons_of_mem _ z)))
        cases dx <;> cases dy <;> simp only [ixD, reduceCtorEq] at hx
        case str.int z i =>
          split at hx
          · rename_i hz
            cases hc : atI z.cps.toList i with
            | none => rw [hc] at hx; cases hx
            | some ch =>
              rw [hc] at hx
              cases hx
              cases Wr_int wy
              cases Wr_str (g.wr m1)
              exact .inl (.inr (.inr ⟨z, i, ch, rfl, rfl, hz, hc, q _ _ (g.dropW.dropW.pushW fun z G _ _ => .str _)⟩))
          · cases hx
        case tup.int ds i =>
          cases Wr_int wy
          obtain ⟨ad, xs, rfl, t, hl, k⟩ := g.subT m1
          obtain ⟨n, h1, h2⟩ := atI_of hx hl
          obtain ⟨v, h3, g'⟩ := k n d h1
          exact .inl (.inr (.inl ⟨ad, xs, i, v, rfl, rfl, t, h2 v h3, fin g'⟩))
        case lst.int f ds i =>
          cases Wr_int wy
          obtain ⟨ad, xs, rfl, t, hl, k⟩ := g.sub m1
          obtain ⟨n, h1, h2⟩ := atI_of hx hl
          obtain ⟨v, h3, g'⟩ := k n d h1
          exact .inl (.inl ⟨ad, xs, i, v, rfl, rfl, .inl t, h2 v h3, fin g'⟩)
        case dk.int f ks i =>
          cases Wr_int wy
          obtain ⟨ad, xs, rfl, t, _, k⟩ := g.subK m1
          obtain ⟨v, h1, g'⟩ := k _ _ hx
          exact .inr ⟨ad, v, rfl, .inl ⟨xs, .inl i, t, rfl, by rw [valV_getA]; exact h1.symm⟩, fin g'⟩
        case dk.str f ks i =>
          cases Wr_str wy
          obtain ⟨ad, xs, rfl, t, _, k⟩ := g.subK m1
          obtain ⟨v, h1, g'⟩ := k _ _ hx
          exact .inr ⟨ad, v, rfl, .inl ⟨xs, .inr i, t, rfl, by rw [valV_getA]; exact h1.symm⟩, fin g'⟩
/-! ### slices -/
def cutD (xs : List D) (lo hi : Option Int) : List D := (xs.drop (HT.sIx xs.length 0 lo)).take (HT.sIx xs.length xs.length hi - HT.sIx xs.length 0 lo)
theorem Rp.cons_inv {z : Zo} {H : Hp} {v : V} {d : D} {vs : List V} {ds : List D} {A : List Addr} (h : Rp z H (.l (v :: vs) (d :: ds)) A) : ∃ A1 A2, Rp z H (.v v d) A1 ∧ Rp z H (.l vs ds) A2 ∧ A = A1 ++ A2 := by
  cases h with
  | cons r rr => exact ⟨_, _, r, rr, rfl⟩
theorem Rp.cons_nil {z : Zo} {H : Hp} {v : V} {d : D} {vs : List V} {ds : List D} (h : Rp z H (.l (v :: vs) (d :: ds)) []) : Rp z H (.v v d) [] ∧ Rp z H (.l vs ds) [] := by
  obtain ⟨A1, A2, r, rr, q⟩ := h.cons_inv
  obtain ⟨e1, e2⟩ := List.append_eq_nil_iff.mp q.symm
  subst e1
  subst e2
  exact ⟨r, rr⟩
theorem Rp.dropL {z : Zo} {H : Hp} : ∀ (n : Nat) {xs : List V} {ds : List D}, Rp z H (.l xs ds) [] → Rp z H (.l (xs.drop n) (ds.drop n)) []
  | 0, _, _, r => r
  | n + 1, [], [], r => r
  | n + 1, x :: xs, d :: ds, r => r.cons_nil.2.dropL n
  | n + 1, [], _ :: _, r => by have := r.lenL; simp at this
  | n + 1, _ :: _, [], r => by have := r.lenL; simp at this
theorem Rp.takeL {z : Zo} {H : Hp} : ∀ (n : Nat) {xs : List V} {ds : List D}, Rp z H (.l xs ds) [] → Rp z H (.l (xs.take n) (ds.take n)) []
  | 0, _, _, _ => .nil
  | n + 1, [], [], r => r
  | n + 1, x :: xs, d :: ds, r => .cons (A := []) (B := []) r.cons_nil.1 (r.cons_nil.2.takeL n)
  | n + 1, [], _ :: _, r => by have := r.lenL; simp at this
  | n + 1, _ :: _, [], r => by have := r.lenL; simp at this
theorem Rp.cutL {z : Zo} {H : Hp} {xs : List V} {ds : List D} (lo hi : Option Int) (r : Rp z H (.l xs ds) []) : Rp z H (.l (cutV xs lo hi) (cutD ds lo hi)) [] := by
  unfold cutV cutD
  rw [r.lenL]
  exact (r.dropL _).takeL _
def sliceD (lo hi : Option Int) : D → Option Nw
  | .lst _ ds => some (.nl (cutD ds lo hi))
  | .str z => if z.length ≤ sizeLine then some (.sc (.str (cutS z lo hi))) else none
  | _ => none
/-- a part of a slice -/
def tO (X : Kx) (p : Par) (W : WX) (f : M (Option Int)) : TO := fun σ H Q => tR X p W f σ H fun lk L e st ws o => ∀ H', Gd X p lk L σ H' e st ws → Q o H'
theorem POmono {e : Option Expr} {t t' : TO} (h : PO X e t) (k : ∀ σ H Q, t' σ H Q → t σ H Q) : PO X e t' := ⟨fun pins s σ H Q I q => h.run pins s σ H Q I (k σ H Q q)⟩
theorem po_noneM : PO X none (tO X p W (.ret none)) := POmono po_none fun σ H Q ⟨lk, L, e, st, ws, g, q⟩ => q H g
def intM (d : D) : M (Option Int) := match d with
  | .int i => .ret (some i)
  | _ => .bad
theorem po_someM (h : PE X a (tW X p W f)) : PO X (some a) (tO X p W (f.bind intM)) := POmono (po_some h) fun σ H Q q => tR_mono (tR_bind q) fun lk L e st ws d q v H' g => by
  cases d with
  | int i => exact ⟨i, Wr_int (g.wr List.mem_cons_self), q H' g.dropW⟩
  | _ => exact False.elim q
def sliM (f : M D) (lo hi : M (Option Int)) : M D := f.bind fun d => lo.bind fun l => hi.bind fun h => newM (sliceD l h d)
theorem pe_sliM {lo hi : Option Expr} {l h : M (Option Int)} {p2 : Pos} (ha : PE X a (tW X p W f)) (hl : PO X lo (tO X p W l)) (hh : PO X hi (tO X p W h)) : PE X (.Subscript a (.Slice lo hi none p2) pos) (tV X p W (sliM f l h)) :=
  PEmono (pe_slice (sl_list.or sl_str) ha hl hh) fun σ H Q q => tR_mono (tR_bind q) fun lk L e st ws d q v H1 g1 => by
    refine ⟨lk, L, e, st, .v v d :: ws, g1, ?_⟩
    unfold M.bind at q
    cases hl : l e with
    | exc => rw [hl] at q; exact q
    | bad => rw [hl] at q; exact q
    | ok lo e1 =>
      rw [hl] at q
      dsimp only at q
      refine fun H2 g2 => ⟨lk, L, e1, st, .v v d :: ws, g2, ?_⟩
      cases hh : h e1 with
      | exc => rw [hh] at q; exact q
      | bad => rw [hh] at q; exact q
      | ok hi e2 =>
        rw [hh] at q
        intro H3 g3
        obtain ⟨r, h1, h2⟩ := newM_run q g3.dropW
        have w := g3.wr (v := v) (d := d) List.mem_cons_self
        cases d <;> simp only [sliceD, reduceCtorEq, Option.some.injEq, Option.ite_none_right_eq_some] at h1
        · obtain ⟨hz, rfl⟩ := h1
          cases Wr_str w
          obtain ⟨v, hv, q⟩ := h2
          cases hv
          exact .inr ⟨_, rfl, hz, q⟩
        · subst h1
          obtain ⟨ad, xs, rfl, rd, r⟩ := Wr_lst w
          exact .inl ⟨ad, xs, rfl, .inl rd, fun a ha => h2.2 a _ ha (r.cutL lo hi)⟩
/-! ### functions -/
def lenD : List D → Option Nw
  | [.str x] => if x.length ≤ sizeLine then some (.sc (.int x.length)) else none
  | [.lst _ ds] => some (.sc (.int ds.length))
  | [.tup ds] => some (.sc (.int ds.length))
  | _ => none
theorem len1 {xs : List V} {d : D} (h : xs.length = [d].length) : ∃ v, xs = [v] := by
  match xs, h with
  | [v], _ => exact ⟨v, rfl⟩
theorem len2 {xs : List V} {d d' : D} (h : xs.length = [d, d'].length) : ∃ v u, xs = [v, u] := by
  match xs, h with
  | [v, u], _ => exact ⟨v, u, rfl⟩
theorem cn_len : CallN X (.builtin "len") lenD := .of call_len fun xs H Q ds n hl hw ho q => by
  unfold lenD at ho
  split at ho
  · rename_i x
    obtain ⟨v, rfl⟩ := len1 hl
    simp only [Option.ite_none_right_eq_some, Option.some.injEq] at ho
    obtain ⟨hz, rfl⟩ := ho
    cases Wr_str (hw (v, .str x) (by simp))
    obtain ⟨v, hv, q⟩ := q
    cases hv
    exact ⟨_, x.length, rfl, ⟨hz, rfl⟩, q⟩
  · rename_i f ds
    obtain ⟨v, rfl⟩ := len1 hl
    cases ho
    obtain ⟨a, xs, rfl, rd, r⟩ := Wr_lst (hw (v, .lst f ds) (by simp))
    obtain ⟨v, hv, q⟩ := q
    cases hv
    exact ⟨_, ds.length, rfl, .inl ⟨xs, .inl rd, r.lenL.symm⟩, q⟩
  · rename_i ds
    obtain ⟨v, rfl⟩ := len1 hl
    cases ho
    obtain ⟨a, xs, rfl, rd, r⟩ := Wr_tup (hw (v, .tup ds) (by simp))
    obtain ⟨v, hv, q⟩ := q
    cases hv
    exact ⟨_, ds.length, rfl, .inr ⟨xs, rd, r.lenL.symm⟩, q⟩
  · cases ho
def minD : List D → Option Nw
  | [.int i, .int j] => some (.sc (.int (if j < i then j else i)))
  | _ => none
def maxD : List D → Option Nw
  | [.int i, .int j] => some (.sc (.int (if j > i then j else i)))
  | _ => none
theorem cn_min (hc : X.calm = true) : CallN X (.builtin "min") minD := .of (call_min2 hc) fun xs H Q ds n hl hw ho q => by
  unfold minD at ho
  split at ho
  · rename_i i j
    obtain ⟨v, u, rfl⟩ := len2 hl
    cases Wr_int (hw (v, .int i) (by simp))
    cases Wr_int (hw (u, .int j) (by simp))
    cases ho
    obtain ⟨v, hv, q⟩ := q
    cases hv
    exact ⟨i, j, rfl, q⟩
  · cases ho
theorem cn_max (hc : X.calm = true) : CallN X (.builtin "max") maxD := .of (call_max2 hc) fun xs H Q ds n hl hw ho q => by
  unfold maxD at ho
  split at ho
  · rename_i i j
    obtain ⟨v, u, rfl⟩ := len2 hl
    cases Wr_int (hw (v, .int i) (by simp))
    cases Wr_int (hw (u, .int j) (by simp))
    cases ho
    obtain ⟨v, hv, q⟩ := q
    cases hv
    exact ⟨i, j, rfl, q⟩
  · cases ho
/-- the type of a value -/
def tyD : D → Option String
  | .non => some "NoneType" | .bl _ => some "bool" | .int _ => some "int" | .str _ => some "str"
  | .tup _ => some "tuple" | .lst _ _ => some "list" | .dk _ _ => some "dict"
  | _ => none
theorem tyX_of {H : Hp} {v : V} {d : D} {t : String} (w : Wr X H v d) (h : tyD d = some t) : TyX X.K H v (.type t) := by
  cases d <;> simp only [tyD, reduceCtorEq, Option.some.injEq] at h <;> subst h
  · cases Wr_non w; exact .base .non
  · cases Wr_bl w; exact .base (.bl _)
  · cases Wr_int w; exact .base (.int _)
  · cases Wr_str w; exact .base (.str _)
  · obtain ⟨a, xs, rfl, rd, r⟩ := Wr_tup w
    rcases rd with (rd | ⟨o, rd⟩) | ⟨o, its, n, e, c, _⟩
    · exact .base (.tup rd)
    · exact .fTuple rd
    · exact .kTuple e c
  · obtain ⟨a, xs, rfl, rd, r⟩ := Wr_lst w
    rcases rd with rd | ⟨o, rd⟩
    · exact .base (.lst rd)
    · exact .base (.frz rd)
  · obtain ⟨a, xs, B, rfl, at0, _⟩ := Rp.dk_inv w
    rcases at0.rd with rd | ⟨o, rd⟩
    · exact .base (.dK rd)
    · exact .fDict rd
def isiD : List D → Option Nw
  | [d, .ty t] => (tyD d).bind fun u => (kitB u t).map fun b => .sc (.bl b)
  | _ => none
theorem cn_isi : CallN X (.builtin "isinstance") isiD := .of call_isi fun xs H Q ds n hl hw ho q => by
  unfold isiD at ho
  split at ho
  · rename_i d t
    obtain ⟨v, u, rfl⟩ := len2 hl
    have w1 := hw (v, d) (by simp)
    have w2 := hw (u, .ty t) (by simp)
    have e : ∀ {z : Zo} {H : Hp} {A : List Addr}, Rp z H (.v u (.ty t)) A → u = .ty t := fun h => by cases h; rfl
    obtain rfl := e w2
    cases h1 : tyD d with
    | none => rw [h1] at ho; cases ho
    | some tt =>
      rw [h1] at ho
      dsimp only [Option.bind] at ho
      cases h2 : kitB tt t with
      | none => rw [h2] at ho; cases ho
      | some b =>
        rw [h2] at ho
        cases ho
        obtain ⟨v', hv, q⟩ := q
        cases hv
        exact ⟨v, .ty t, .type tt, .type t, b, rfl, .ty t, tyX_of w1 h1, kit_ty h2, q⟩
  · cases ho
end
end DG

set_option Elab.async false
set_option linter.all false
set_option maxHeartbeats 4000000
/-! DGj: places by expressions; what writes there. -/
namespace DG
open PySem PySem.Spec PyProof.Rows L2
set_option autoImplicit false
section
variable (X : Kx) (p : Par) (W : WX)
/-- an expression that is a place -/
def tP (f : M (Nat × Pth)) : TE := fun σ H Q => tR X p W f σ H fun lk L e st ws q => ∀ x H', Gd X p lk L σ H' e st (.p q.1 q.2 x :: ws) → Q x H'
/-- a value where nothing weak is pending: it may write -/
def tV0 (f : M D) : TE := fun σ H Q => ∃ lk L e st, Gd X p lk L σ H e st [] ∧ (f e).run (fun d e' => ∀ v H', Gd X p lk L σ H' e' ((v, d) :: st) [] → Q v H') (XW X p W lk L σ st)
end
section
variable {X : Cx} {p : Par} {W : WX} {lk : List Addr} {L : Lk} {σ : L2.St} {H : Hp} {e : Env} {st : Stk} {ws : List Wk} {a b c : Expr} {pos : Pos} {f g h : M D}
theorem pe_zero (h : PE X a (tV X p W f)) : PE X a (tV0 X p W f) := PEmono h fun σ H Q ⟨lk, L, e, st, g, q⟩ => ⟨lk, L, e, st, [], g, q⟩
/-- what is known of a pending place -/
theorem Gd.plD {i : Nat} {π : Pth} {x : V} {r d : D} (g : Gd X p lk L σ H e st ws) (h : .p i π x ∈ ws) (he : e[i]? = some (some r)) (hp : getP r π = some d) (hi : imm d = false) : Gd X p lk L σ H e st (.v x (lend d) :: ws) := by
  obtain ⟨S, G, A, B, g⟩ := g
  obtain ⟨v, A1, A2, h1, h2, h3, h4⟩ := g.env.split he
  obtain ⟨v0, A0, A1r, k1, k2, k3, k4⟩ := h2.focP hp
  obtain ⟨hn, v', e1, e2⟩ : i ∈ p.nl ∧ PlV σ G i π x := g.wk _ h
  rw [h1] at e1; cases e1
  obtain rfl := e2.inj k1
  exact ⟨S, G, A, B, g.less g.env g.stk (fun w hw => (List.mem_cons.mp hw).elim (fun z => z ▸ k2.lend) (g.wk w)) ⟨[], .refl _⟩ g.pin⟩
theorem Gd.slotP {i : Nat} {d : D} (g : Gd X p lk L σ H e st ws) (h : e[i]? = some (some d)) (hn : i ∈ p.nl) : ∃ v, σ[i]? = some (some v) ∧ Gd X p lk L σ H e st (.p i [] v :: ws) := by
  obtain ⟨S, G, A, B, g⟩ := g
  obtain ⟨v, A1, A2, h1, h2, h3, h4⟩ := g.env.split h
  exact ⟨v, h1, S, G, A, B, g.less g.env g.stk (fun w hw => (List.mem_cons.mp hw).elim (fun z => z ▸ ⟨hn, v, h1, rfl⟩) (g.wk w)) ⟨[], .refl _⟩ g.pin⟩
def slotP (nl : List Nat) (i : Nat) : M (Nat × Pth) := fun e => match e[i]? with
  | some (some _) => if i ∈ nl then .ok (i, []) e else .bad
  | _ => .bad
theorem pe_slotP {i : Nat} {x : Str} {pos : Pos} (hN : X.N[i]? = some x) (hv : Vis X.env.scope x) (hd : (x == ("__debug__" : Str)) = false) (hcd : (x == ("__classdict__" : Str)) = false) : PE X (.Name x pos) (tP X p W (slotP p.nl i)) :=
  PEmono (pe_var hN hv hd hcd) fun σ H Q ⟨lk, L, e, st, ws, g, q⟩ => by
    unfold slotP at q
    cases he : e[i]? with
    | none => rw [he] at q; exact False.elim q
    | some o =>
      cases o with
      | none => rw [he] at q; exact False.elim q
      | some d =>
        rw [he] at q
        dsimp only at q
        by_cases hi : i ∈ p.nl
        · rw [if_pos hi] at q
          obtain ⟨v, h1, h2⟩ := g.slotP he hi
          exact ⟨v, h1, q v H h2⟩
        · rw [if_neg hi] at q; exact False.elim q
/-- what stands at a place -/
def atP (q : Nat × Pth) (e : Env) : Option D := match e[q.1]? with
  | some (some r) => getP r q.2
  | _ => none
def setAt (q : Nat × Pth) (d : D) (e : Env) : Env := match e[q.1]? with
  | some (some r) => e.set q.1 (some (setP r q.2 d))
  | _ => e
theorem atP_of {q : Nat × Pth} {d : D} (h : atP q e = some d) : ∃ r, e[q.1]? = some (some r) ∧ getP r q.2 = some d ∧ ∀ d', setAt q d' e = e.set q.1 (some (setP r q.2 d')) := by
  unfold atP at h
  cases he : e[q.1]? with
  | none => rw [he] at h; cases h
  | some o =>
    cases o with
    | none => rw [he] at h; cases h
    | some r => rw [he] at h; exact ⟨r, rfl, h, fun d' => by unfold setAt; rw [he]⟩
theorem RpS.keep {z : Zo} {G G' : Hp} {a : Addr} (k : ∀ g A, Rp z G g A → a ∉ A → Rp z G' g A) {st : Stk} {B : List Addr} (h : RpS z G st B) (hB : a ∉ B) : RpS z G' st B := by
  induction h with
  | nil => exact .nil
  | cons r _ ih => exact .cons (k _ _ r fun q => hB (List.mem_append_left _ q)) (ih fun q => hB (List.mem_append_right _ q))
/-! ### a list written -/
theorem Gd.lstW {st0 front : Stk} {q : Nat × Pth} {ds : List D} {x : V} (g : Gd X p lk L σ H e (front ++ st0) ws) (h : atP q e = some (.lst .own ds)) (hx : PlV σ H q.1 q.2 x) (hw : ∀ w ∈ ws, w.imm = true) :
    ∃ a xs, x = .ref a ∧ H a = some (.lst xs) ∧ xs.length = ds.length ∧
      ∀ (xs' : List V) (ds' : List D) (back : Stk), (∀ (z : Zo) (G : Hp) (A B : List Addr), Rp z G (.l xs ds) A → RpS z G front B → ∃ C A' B', Rp z G (.l xs' ds') A' ∧ RpS z G back B' ∧ (A ++ B).Perm (C ++ (A' ++ B'))) →
        Gd X p lk L σ (upd H a (.lst xs')) (setAt q (.lst .own ds') e) (back ++ st0) ws ∧ PlV σ (upd H a (.lst xs')) q.1 q.2 (.ref a) := by
  obtain ⟨r, he, hp, hs⟩ := atP_of h
  obtain ⟨a, u, rfl, hH, hM, _, z, G, A0, B1, kK, kg, hlk, hG, r0, s0, nd, k⟩ := g.change he hp rfl hx hw
  obtain ⟨a', xs, C0, e1, at0, o, rl, eA⟩ := r0.lst_inv
  cases e1
  have hu : u = .lst xs := by
    have : G a = some (.lst xs) := at0
    rw [hG] at this; exact Option.some.inj this
  subst hu
  refine ⟨a, xs, rfl, hH, rl.lenL, fun xs' ds' back tr => ?_⟩
  rw [hs]
  subst eA
  have ha : a ∉ C0 ++ B1 := (List.nodup_cons.mp (show (a :: (C0 ++ B1)).Nodup from nd)).1
  -- the transformation is asked once, in the old heap, for the addresses
  obtain ⟨C, A', B', t1, t2, t3⟩ := tr z G C0 B1 rl s0
  refine k (.lst xs') (.lst .own ds') back C (a :: A') B' (fun G' hG' keep => ?_) ?_ (fun _ _ z => nomatch z)
  · have hperm := t3
    have hA' : a ∉ A' := fun z => ha (hperm.mem_iff.mpr (List.mem_append_right _ (List.mem_append_left _ z)))
    have hB' : a ∉ B' := fun z => ha (hperm.mem_iff.mpr (List.mem_append_right _ (List.mem_append_right _ z)))
    refine ⟨Rp.lst (f := .own) hG' hlk (keep _ _ t1 hA'), ?_⟩
    exact t2.keep keep hB'
  · show (a :: (C0 ++ B1)).Perm (C ++ (a :: (A' ++ B')))
    exact (List.Perm.cons a t3).trans List.perm_middle.symm
def appM (fp : M (Nat × Pth)) (g : M D) : M D := fp.bind fun q => fun e => match atP q e with
  | some (.lst _ _) => (g.bind fun d => fun e => match atP q e with
    | some (.lst .own ds) => if ds.length < sizeLine then .ok .non (setAt q (.lst .own (ds ++ [d])) e) else .bad
    | _ => .bad) e
  | _ => .bad
theorem pe_appM {fp : M (Nat × Pth)} {o : Expr} {apos cpos : Pos} (ho : PE X o (tP X p W fp)) (ha : PE X a (tV X p W g))
    (hbase : attributeBase o "append" X.env (eval o X.env) = eval o X.env) (hline : (apos.endLine == cpos.line) = true) (hs : starEach [a] X.env = [(false, eval a X.env)]) :
    PE X (.Call (.Attribute o "append" apos) [a] [] cpos) (tV0 X p W (appM fp g)) := by
  have hA : PA X [a] (tCons (tV X p W g) tNil) := pa_cons ha pa_nil hs
  refine PEmono (pe_bm PySem.F.plainAttrs_list PySem.F.slot_list_append PySem.F.type_list_append mt_append ho hA hbase (by rw [hs]; rfl) hline hs rfl) fun σ H Q ⟨lk, L, e, st, gd, q⟩ => ?_
  refine ⟨lk, L, e, st, [], gd, ?_⟩
  unfold appM M.bind at q
  cases hf : fp e with
  | exc => rw [hf] at q; exact q
  | bad => rw [hf] at q; exact q
  | ok pl e1 =>
    rw [hf] at q
    dsimp only at q
    intro x H1 g1
    cases h1 : atP pl e1 with
    | none => rw [h1] at q; exact False.elim q
    | some d1 =>
      rw [h1] at q
      cases d1 with
      | lst f1 ds1 =>
        dsimp only at q
        obtain ⟨r1, he1, hp1, _⟩ := atP_of h1
        obtain ⟨a1, xs1, rfl, rd1, _⟩ := Wr_lst ((g1.plD List.mem_cons_self he1 hp1 rfl).wr List.mem_cons_self)
        refine ⟨.inl ⟨rfl, xs1, .inl rd1⟩, ⟨lk, L, e1, st, [.p pl.1 pl.2 (.ref a1)], g1, ?_⟩⟩
        cases hg : g e1 with
        | exc => rw [hg] at q; exact q
        | bad => rw [hg] at q; exact q
        | ok d e2 =>
          rw [hg] at q
          dsimp only at q
          intro y H2 g2
          cases h2 : atP pl e2 with
          | none => rw [h2] at q; exact False.elim q
          | some d2 =>
            rw [h2] at q
            cases d2 with
            | lst f2 ds =>
              cases f2 with
              | own =>
                dsimp only at q
                by_cases hz : ds.length < sizeLine
                · rw [if_pos hz] at q
                  have hx := g2.pl (List.mem_cons_self)
                  have g3 := g2.subW (ws' := []) (fun w hw => by cases hw)
                  obtain ⟨a2, xs, e3, hH, hl, k⟩ := Gd.lstW (front := [(y, d)]) g3 h2 hx (fun w hw => by cases hw)
                  cases e3
                  refine ⟨a1, xs, y, rfl, rfl, hH, by rw [hl]; exact hz, q _ _ (Gd.push (k (xs ++ [y]) (ds ++ [d]) [] fun z G A B r rS => ?_).1 fun z G _ _ => .non)⟩
                  refine ⟨[], A ++ B, [], r.appL ?_, .nil, by simp⟩
                  have := rS.toL
                  exact this
                · rw [if_neg hz] at q; exact False.elim q
              | _ => exact False.elim q
            | _ => exact False.elim q
      | _ => exact False.elim q
end
end DG

set_option Elab.async false
set_option linter.all false
set_option maxHeartbeats 4000000
/-! DIa: locks. -/
namespace DG
open PySem PySem.Spec PyProof.Rows L2
set_option autoImplicit false
def NoFz (X : Cx) (d : Addr) : Prop := ∀ o u, X.H_0 d ≠ some (.frz o u)
/-- with one lock more, or none -/
inductive LkE (X : Cx) (L : Lk) : Lk → Prop
  | refl : LkE X L L
  | one (d : Addr) (od : Obj) : L.lo.lookup d = none → NoFz X d → LkE X L ⟨(d, od) :: L.lo, L.hd⟩
/-- .. a lock less -/
def UnQ (X : Cx) (Q : Hp → Prop) (H : Hp) : Prop := Q H ∨ ∃ d o u, H d = some (.frz o u) ∧ NoFz X d ∧ Q (upd H d u)
section
variable {X : Cx} {p : Par} {lk : List Addr} {L : Lk} {σ : L2.St} {H : Hp} {e : Env} {st : Stk} {ws : List Wk}
/-- what stands frozen -/
def nonA (f : Fl) : Bool := match f with | .own => false | .lk => false | _ => true
theorem nonA_of {f : Fl} (h : nonA f = true) (b : Addr) : FlA f b = [] := by cases f <;> first | rfl | cases h
theorem nonA_to {f : Fl} (h : ∀ b, FlA f b = []) : nonA f = true := by cases f <;> first | rfl | cases h 0
theorem Gd.viewAt {front : Stk} {d : Addr} {f : Fl} {kvs : List (Key × V)} (g : Gd X p lk L σ H e (front ++ (.ref d, .kd f kvs) :: st) ws) : ∃ S G A B, GdB X p lk L σ H e (front ++ (.ref d, .kd f kvs) :: st) ws S G A B ∧ Rd G d (.dK kvs) ∧ FlOk (zo X p S lk) d f ∧ ∀ b, FlA f b = [] := by
  obtain ⟨S, G, A, B, g⟩ := g
  obtain ⟨B1, B2, s1, s2, rfl⟩ := RpS.unappend g.stk
  cases s2 with
  | @cons _ _ A1 B1 r rr =>
    have r : Rp (zo X p S lk) G (.v (.ref d) (.kd f kvs)) A1 := r
    cases r with
    | kd e a o => exact ⟨S, G, A, _, g, a, o, e⟩
theorem Gd.lock {v : V} {f : Fl} {kvs : List (Key × V)} (g : Gd X p lk L σ H e ((v, .kd f kvs) :: st) ws) : ∃ d, v = .ref d ∧
    ((∃ o, ∀ {L' : Lk} {σ : L2.St} {H : Hp} {e : Env} {front : Stk} {ws : List Wk}, L'.lo = L.lo → Gd X p lk L' σ H e (front ++ (.ref d, .kd f kvs) :: st) ws → H d = some (.frz o (.dK kvs))) ∨
     (H d = some (.dK kvs) ∧ L.lo.lookup d = none ∧ ∀ od, Gd X p lk ⟨(d, od) :: L.lo, L.hd⟩ σ (upd H d (.frz od (.dK kvs))) e ((v, .kd f kvs) :: st) ws ∧
      ∀ {L' : Lk} {σ : L2.St} {H : Hp} {e : Env} {front : Stk} {ws : List Wk}, L'.lo = (d, od) :: L.lo → Gd X p lk L' σ H e (front ++ (.ref d, .kd f kvs) :: st) ws → H d = some (.frz od (.dK kvs)))) := by
  obtain ⟨d, rfl⟩ : ∃ d, v = .ref d := by
    obtain ⟨S, G, A, B, g⟩ := g
    cases hs : g.stk with
    | cons r rr =>
      have r : Rp _ _ (.v v (.kd f kvs)) _ := r
      cases r with
      | kd e a o => exact ⟨_, rfl⟩
  refine ⟨d, rfl, ?_⟩
  have locked : ∀ {M : List (Addr × Obj)} {od : Obj}, M.lookup d = some od → ∀ {L' : Lk} {σ : L2.St} {H : Hp} {e : Env} {front : Stk} {ws : List Wk}, L'.lo = M → Gd X p lk L' σ H e (front ++ (.ref d, .kd f kvs) :: st) ws → H d = some (.frz od (.dK kvs)) := fun {M od} q {L' σ H e front ws} hl g => by
    obtain ⟨S, G, A, B, g, rd, o, _⟩ := Gd.viewAt g
    rw [← hl] at q
    obtain ⟨u, h1, h2⟩ := g.lkd.lo d od q
    obtain rfl := rd_fun rd h1 h2.mut
    rw [g.hL]; exact lockAll_at g.lkd q h1
  obtain ⟨S, G, A, B, g, rd, fo, fa⟩ := Gd.viewAt (front := []) g
  cases q : L.lo.lookup d with
  | some od => exact .inl ⟨od, fun {L' σ H e front ws} hl g => locked q hl g⟩
  | none =>
    rcases rd with hG | ⟨o', hG⟩
    · refine .inr ⟨by rw [g.hL]; exact lockAll_free g.lkd q hG, rfl, fun od => ⟨⟨S, G, A, B, ?_⟩, fun {L' σ H e front ws} hl g => locked (by simp) hl g⟩⟩
      refine ⟨g.ok, by rw [g.hL]; exact (lockAll_cons g.lkd q hG).symm, ⟨fun a od' h => ?_, g.lkd.hd⟩, fun a od' h => ?_, g.lke, g.env, g.stk, g.wk, g.nd, g.dj, g.ow, g.s0, g.sd, g.fr, g.oo, g.pin, g.nf⟩
      · by_cases z : a = d
        · subst z; exact ⟨_, hG, trivial⟩
        · rw [show (Lk.mk ((d, od) :: L.lo) L.hd).lo.lookup a = L.lo.lookup a by
            show ((d, od) :: L.lo).lookup a = _
            rw [List.lookup_cons, beq_false_of_ne z]] at h
          exact g.lkd.lo a od' h
      · by_cases z : a = d
        · subst z
          cases f with
          | own => cases fa 0
          | lk => cases fa 0
          | fr => exact .inl fo.1
          | sh => exact .inl fo
          | ro => exact .inr (.inl fo)
        · rw [show (Lk.mk ((d, od) :: L.lo) L.hd).lo.lookup a = L.lo.lookup a by
            show ((d, od) :: L.lo).lookup a = _
            rw [List.lookup_cons, beq_false_of_ne z]] at h
          exact g.lkz a od' h
    · refine .inl ⟨o', fun {L' σ H' e front ws} hl g' => ?_⟩
      have hR : p.R0 d → p.H0 d = some (.frz o' (.dK kvs)) ∧ d ∉ p.O := fun h => by
        obtain ⟨⟨w, hw⟩, hO⟩ := g.ok.rd d h
        refine ⟨?_, hO⟩
        rw [hw, ← g.fr d w hw hO, hG]
      have hS : S d → p.H0 d = some (.frz o' (.dK kvs)) ∧ d ∉ p.O := fun h => by
        rcases (g.sd d h).1 with z | z | z
        · exact hR (g.ok.sr d z)
        · exact absurd hG (g.nf d (.inl z) _ _)
        · exact absurd hG (g.nf d (.inr z) _ _)
      have key : p.H0 d = some (.frz o' (.dK kvs)) ∧ d ∉ p.O := by
        cases f with
        | own => cases fa 0
        | lk => cases fa 0
        | fr => exact hS fo.1
        | sh => exact hS fo
        | ro => exact hR fo
      obtain ⟨S2, G2, A2, B2, g2⟩ := g'
      have hG2 := g2.fr d _ key.1 key.2
      have q2 : L'.lo.lookup d = none := by rw [hl]; exact q
      rw [g2.hL]; exact lockAll_free g2.lkd q2 hG2
theorem Gd.unlock {L' : Lk} (k : LkE X L L') (g : Gd X p lk L' σ H e st ws) {Q : Hp → Prop} (h : ∀ H', Gd X p lk L σ H' e st ws → Q H') : UnQ X Q H := by
  cases k with
  | refl => exact .inl (h H g)
  | one d od hl hn =>
    obtain ⟨S, G, A, B, g⟩ := g
    have hd0 : (Lk.mk ((d, od) :: L.lo) L.hd).lo.lookup d = some od := by simp
    obtain ⟨u, hG, hu⟩ := g.lkd.lo d od hd0
    have ne : ∀ {a od'}, L.lo.lookup a = some od' → a ≠ d := fun {a od'} q z => by subst z; rw [hl] at q; cases q
    have lo' : ∀ {a od'}, L.lo.lookup a = some od' → (Lk.mk ((d, od) :: L.lo) L.hd).lo.lookup a = some od' := fun {a od'} q => by
      show ((d, od) :: L.lo).lookup a = _
      rw [List.lookup_cons, beq_false_of_ne (ne q)]; exact q
    have lkd : LkOk L G := ⟨fun a od' q => g.lkd.lo a od' (lo' q), g.lkd.hd⟩
    refine .inr ⟨d, od, u, by rw [g.hL]; exact lockAll_at g.lkd hd0 hG, hn, h _ ⟨S, G, A, B, ⟨g.ok, ?_, lkd, fun a od' q => g.lkz a od' (lo' q), g.lke, g.env, g.stk, g.wk, g.nd, g.dj, g.ow, g.s0, g.sd, g.fr, g.oo, g.pin, g.nf⟩⟩⟩
    rw [g.hL, lockAll_cons lkd hl hG, upd_upd]
    funext a
    by_cases z : a = d
    · subst z; rw [upd_same, lockAll_free lkd hl hG]
    · rw [upd_ne z]
end
/-! ### readings with a lock less at the end -/
section
variable {X : Cx}
theorem Inv.unQ {pins : List (Addr × Obj)} {σ : L2.St} {H : Hp} {s : Shared} {Q : Hp → Prop} (I : Inv X pins σ H s) (h : UnQ X Q H) : ∃ H', Inv X pins σ H' s ∧ Q H' := by
  rcases h with h | ⟨d, o, u, e, n, h⟩
  · exact ⟨H, I, h⟩
  · exact ⟨_, I.unlock e n, h⟩
theorem pe_unl {e : Expr} {t : TE} (h : PE X e t) : PE X e (fun σ H Q => t σ H fun v H' => UnQ X (Q v) H') := ⟨fun pins s σ H Q I q => wpAny_mono (h.run pins s σ H _ I q) (fun u s1 ⟨v, H', I', r, q⟩ => let ⟨H2, I2, q2⟩ := Inv.unQ I' q; ⟨v, H2, I2, r, q2⟩) fun _ _ z => z⟩
def EndsU (X : Cx) (D : Ends) : Ends := ⟨fun σ => UnQ X (D.nx σ), fun v => UnQ X (D.rt v), fun σ => UnQ X (D.bk σ), fun σ => UnQ X (D.ct σ)⟩
theorem ps_unl {st : Stmt} {t : TS} (h : PS X st t) : PS X st (fun D σ H => t (EndsU X D) σ H) := ⟨fun pins s σ H D I q => wpAny_mono (h.run pins s σ H _ I q) (fun f s1 q => by
  cases f with
  | next => obtain ⟨σ', H', I', q⟩ := q; obtain ⟨H2, I2, q2⟩ := Inv.unQ I' q; exact ⟨σ', H2, I2, q2⟩
  | brk => obtain ⟨σ', H', I', q⟩ := q; obtain ⟨H2, I2, q2⟩ := Inv.unQ I' q; exact ⟨σ', H2, I2, q2⟩
  | cont => obtain ⟨σ', H', I', q⟩ := q; obtain ⟨H2, I2, q2⟩ := Inv.unQ I' q; exact ⟨σ', H2, I2, q2⟩
  | ret u => obtain ⟨v, σ', H', I', r, q⟩ := q; obtain ⟨H2, I2, q2⟩ := Inv.unQ I' q; exact ⟨v, σ', H2, I2, r, q2⟩) fun _ _ z => z⟩
/-- .. of what is raised -/
def WU (X : Cx) (W : WX) : WX := fun c d σ H => UnQ X (W c d σ) H
theorem Takes.unl {W : WX} (tk : Takes X W) : Takes X (WU X W) := fun u s' ⟨a, B, sI, pins, σ, H, cls, d, e, I, nb, up, sky, na, os, ag, w⟩ => by
  rcases w with w | ⟨dd, o, v, ed, n, w⟩
  · exact tk u s' ⟨a, B, sI, pins, σ, H, cls, d, e, I, nb, up, sky, na, os, ag, w⟩
  · exact tk u s' ⟨a, B, sI, pins, σ, _, cls, d, e, I.unlock ed n, nb, up, sky, by rw [upd_ne (fun z => by subst z; rw [na] at ed; cases ed)]; exact na, os, ag, w⟩
/-- an expression that gives a dict: it is locked behind it -/
theorem pe_lockB {e : Expr} {t : TE} (h : PE X e t) : PE X e (fun σ H Q => t σ H fun x H1 => Q x H1 ∨ ∃ d u, x = .ref d ∧ H1 d = some u ∧ Mut (some u) ∧ (NoFz X d → ∀ od, Q x (upd H1 d (.frz od u)))) := ⟨fun pins s σ H Q I q => wpAny_mono (h.run pins s σ H _ I q) (fun u s1 ⟨v, H', I', r, q⟩ => by
  rcases q with q | ⟨d, w, rfl, hd, mu, q⟩
  · exact ⟨v, H', I', r, q⟩
  · obtain ⟨od, I2⟩ := I'.lock hd mu
    exact ⟨_, _, I2, r, q (I'.nofrz hd mu) od⟩) fun _ _ z => z⟩
end
end DG

set_option Elab.async false
set_option linter.all false
set_option maxHeartbeats 4000000
/-! DGk: statements; loops. -/
namespace DG
open PySem PySem.Spec PyProof.Rows L2
set_option autoImplicit false
inductive Fw where
  | next | brk | cont | ret (d : D)
section
variable (X : Kx) (p : Par) (W : WX)
def XS (lk : List Addr) (L : Lk) (st : Stk) : Str → List (Str × D) → Env → Prop := fun c fs e' => ∀ σ cls d H', ExG X p lk L σ H' e' st c fs cls d → W cls d σ H'
def FwK (lk : List Addr) (L : Lk) (st : Stk) (D : Ends) (fl : Fw) (e' : Env) : Prop := match fl with
  | .next => ∀ σ' H', Gd X p lk L σ' H' e' st [] → D.nx σ' H'
  | .brk => ∀ σ' H', Gd X p lk L σ' H' e' st [] → D.bk σ' H'
  | .cont => ∀ σ' H', Gd X p lk L σ' H' e' st [] → D.ct σ' H'
  | .ret d => ∀ v σ' H', Gd X p lk L σ' H' e' ((v, d) :: st) [] → D.rt v H'
def tS (f : M Fw) : TS := fun D σ H => ∃ lk L e st, Gd X p lk L σ H e st [] ∧ (f e).run (FwK X p lk L st D) (XS X p W lk L st)
/-- a target of an assignment -/
def tG (f : DG.D → Env → Option Env) : TG := fun v σ H Q => ∃ lk L e st ws d e', Gd X p lk L σ H e ((v, d) :: st) ws ∧ f d e = some e' ∧ ∀ σ' H', Gd X p lk L σ' H' e' st ws → Q σ' H'
end
theorem Res.run_mono {α : Type} {r : Res α} {ok ok' : α → Env → Prop} {ex ex' : Str → List (Str × D) → Env → Prop} (h : r.run ok ex) (k1 : ∀ a e, ok a e → ok' a e) (k2 : ∀ c fs e, ex c fs e → ex' c fs e) : r.run ok' ex' := by
  cases r with
  | ok a e => exact k1 _ _ h
  | exc c fs e => exact k2 _ _ _ h
  | bad => exact h
theorem run_bind {α β : Type} {f : M α} {g : α → M β} {e : Env} {ok : β → Env → Prop} {ex : Str → List (Str × D) → Env → Prop} (h : (f.bind g e).run ok ex) : (f e).run (fun a e' => (g a e').run ok ex) ex := by
  unfold M.bind at h
  cases hf : f e with
  | ok a e' => rw [hf] at h; exact h
  | exc c fs e' => rw [hf] at h; exact h
  | bad => rw [hf] at h; exact h
section
variable {X : Cx} {p : Par} {W : WX} {lk : List Addr} {L : Lk} {σ : L2.St} {H : Hp} {e : Env} {st : Stk} {ws : List Wk} {a b c : Expr} {pos : Pos} {f g h : M D}
theorem PSmono {s : Stmt} {t t' : TS} (h : PS X s t) (k : ∀ D σ H, t' D σ H → t D σ H) : PS X s t' := ⟨fun pins s σ H D I q => h.run pins s σ H D I (k D σ H q)⟩
theorem PSsmono {s : List Stmt} {t t' : TS} (h : PSs X s t) (k : ∀ D σ H, t' D σ H → t D σ H) : PSs X s t' := ⟨fun pins s σ H D I q => h.run pins s σ H D I (k D σ H q)⟩
theorem PGmono {s : Expr} {t t' : TG} (h : PG X s t) (k : ∀ v σ H Q, t' v σ H Q → t v σ H Q) : PG X s t' := ⟨fun pins s σ H v u Q I r q => h.run pins s σ H v u Q I r (k v σ H Q q)⟩
def seqM (f g : M Fw) : M Fw := f.bind fun fl => match fl with
  | .next => g
  | .brk => .ret .brk
  | .cont => .ret .cont
  | .ret d => .ret (.ret d)
theorem pss_nilM : PSs X [] (tS X p W (.ret .next)) := PSsmono pss_nil fun D σ H ⟨lk, L, e, st, g, q⟩ => q σ H g
theorem pss_consM {s : Stmt} {r : List Stmt} {f g : M Fw} (h1 : PS X s (tS X p W f)) (h2 : PSs X r (tS X p W g)) : PSs X (s :: r) (tS X p W (seqM f g)) :=
  PSsmono (pss_cons h1 h2) fun D σ H ⟨lk, L, e, st, gd, q⟩ => by
    refine ⟨lk, L, e, st, gd, Res.run_mono (run_bind q) (fun fl e' q => ?_) fun _ _ _ q => q⟩
    cases fl with
    | next => exact fun σ' H' g' => ⟨lk, L, e', st, g', q⟩
    | brk => exact q
    | cont => exact q
    | ret d => exact q
theorem pss_oneM {s : Stmt} {f : M Fw} (h1 : PS X s (tS X p W f)) : PSs X [s] (tS X p W f) := pss_one h1
theorem XS.xw {st : Stk} : ∀ c fs e, XS X p W lk L st c fs e → XW X p W lk L σ st c fs e := fun c fs e h cls d H' q => h σ cls d H' q
/-- an expression for its doing -/
theorem ps_exprM (he : PE X a (tV0 X p W f)) (hs : swapsWith a none pos.line X.env = pure false) : PS X (.Expr a pos) (tS X p W (f.bind fun _ => .ret .next)) :=
  PSmono (ps_expr he hs) fun D σ H ⟨lk, L, e, st, g, q⟩ => ⟨lk, L, e, st, g, Res.run_mono (run_bind q) (fun d e' q v H' g' => q σ H' g'.drop) XS.xw⟩
theorem ps_retM (he : PE X a (tV0 X p W f)) : PS X (.Return (some a) pos) (tS X p W (f.bind fun d => .ret (.ret d))) :=
  PSmono (ps_ret he) fun D σ H ⟨lk, L, e, st, g, q⟩ => ⟨lk, L, e, st, g, Res.run_mono (run_bind q) (fun d e' q v H' g' => q v σ H' g') XS.xw⟩
theorem ps_retNM : PS X (.Return none pos) (tS X p W (.ret (.ret .non))) :=
  PSmono ps_retN fun D σ H ⟨lk, L, e, st, g, q⟩ => q .non σ H (g.push fun z G _ _ => .non)
theorem ps_docM {x : Str} {j : Option String} {pos pos' : Pos} : True := trivial
theorem ps_brkM : PS X (.Break pos) (tS X p W (.ret .brk)) := PSmono ps_break fun D σ H ⟨lk, L, e, st, g, q⟩ => q σ H g
theorem ps_contM : PS X (.Continue pos) (tS X p W (.ret .cont)) := PSmono ps_continue fun D σ H ⟨lk, L, e, st, g, q⟩ => q σ H g
theorem ps_ifM {t : M Bool} {s1 s2 : List Stmt} {f1 f2 : M Fw} (hc : PT X c (tT X p W t)) (h1 : PSs X s1 (tS X p W f1)) (h2 : PSs X s2 (tS X p W f2)) : PS X (.If c s1 s2 pos) (tS X p W (t.bind fun b => if b then f1 else f2)) :=
  PSmono (ps_if hc h1 h2) fun D σ H ⟨lk, L, e, st, g, q⟩ => ⟨lk, L, e, st, [], g, Res.run_mono (run_bind q) (fun b e' q H' g' => by
    cases b with
    | true => rw [if_pos rfl]; exact ⟨lk, L, e', st, g', q⟩
    | false => rw [if_neg Bool.false_ne_true]; exact ⟨lk, L, e', st, g', q⟩) XS.xw⟩
/-! ### names stored -/
def putE (io : Bool) (i : Nat) (d : D) (e : Env) : Option Env := if i < e.length ∧ (io = false ∨ i ≠ 0) then some (e.set i (some d)) else none
def liftT (f : D → Env → Option Env) (d : D) : M Unit := fun e => match f d e with
  | some e' => .ok () e'
  | none => .bad
theorem run_lift {f : D → Env → Option Env} {d : D} {e : Env} {ok : Unit → Env → Prop} {ex : Str → List (Str × D) → Env → Prop} (h : (liftT f d e).run ok ex) : ∃ e', f d e = some e' ∧ ok () e' := by
  unfold liftT at h
  cases q : f d e with
  | none => rw [q] at h; exact False.elim h
  | some e' => rw [q] at h; exact ⟨e', rfl, h⟩
theorem putE_of {io : Bool} {i : Nat} {d : D} {e e' : Env} (h : putE io i d e = some e') : i < e.length ∧ (io = false ∨ i ≠ 0) ∧ e' = e.set i (some d) := by
  unfold putE at h
  split at h
  · rename_i hz; cases h; exact ⟨hz.1, hz.2, rfl⟩
  · cases h
theorem ps_setM {i : Nat} {x : Str} {io : Bool} {pos' : Pos} (hio : io = false → p.io = none) (hN : X.N.Nodup) (hi : X.N[i]? = some x) (hx : Loc X.env.scope x) (he : PE X a (tV0 X p W f)) (hs : swapsWith a (some (.Name x pos')) pos.line X.env = pure false) (hf : X.fn x = true ∨ X.env.scope.names.lookup x = some .local) :
    PS X (.Assign [.Name x pos'] a pos) (tS X p W (f.bind fun d => (liftT (putE io i) d).bind fun _ => .ret .next)) :=
  PSmono (ps_set hN hi hx he hs hf) fun D σ H ⟨lk, L, e, st, g, q⟩ => ⟨lk, L, e, st, g, Res.run_mono (run_bind q) (fun d e' q v H' g' => by
    obtain ⟨e2, he, q⟩ := run_lift (run_bind q)
    obtain ⟨h1, h2, rfl⟩ := putE_of he
    exact q _ _ (g'.store h1 (h2.elim (fun z => .inl (hio z)) .inr) (.inl rfl))) XS.xw⟩
theorem pg_nameM {i : Nat} {x : Str} {io : Bool} {pos' : Pos} (hio : io = false → p.io = none) (hN : X.N.Nodup) (hi : X.N[i]? = some x) (hx : Loc X.env.scope x) (hf : X.fn x = true ∨ X.env.scope.names.lookup x = some .local) (hn : i ∉ p.nl) :
    PG X (.Name x pos') (tG X p (putE io i)) :=
  PGmono (pg_name hN hi hx hf) fun v σ H Q ⟨lk, L, e, st, ws, d, e', g, he, q⟩ => by
    obtain ⟨h1, h2, rfl⟩ := putE_of he
    exact q _ _ (g.store h1 (h2.elim (fun z => .inl (hio z)) .inr) (.inr hn))
/-- .. where nothing weak is pending -/
def tG0 (X : Kx) (p : Par) (f : DG.D → Env → Option Env) : TG := fun v σ H Q => ∃ lk L e st d e', Gd X p lk L σ H e ((v, d) :: st) [] ∧ f d e = some e' ∧ ∀ σ' H', Gd X p lk L σ' H' e' st [] → Q σ' H'
theorem pg_name0 {i : Nat} {x : Str} {io : Bool} {pos' : Pos} (hio : io = false → p.io = none) (hN : X.N.Nodup) (hi : X.N[i]? = some x) (hx : Loc X.env.scope x) (hf : X.fn x = true ∨ X.env.scope.names.lookup x = some .local) :
    PG X (.Name x pos') (tG0 X p (putE io i)) :=
  PGmono (pg_name hN hi hx hf) fun v σ H Q ⟨lk, L, e, st, d, e', g, he, q⟩ => by
    obtain ⟨h1, h2, rfl⟩ := putE_of he
    exact q _ _ (g.store h1 (h2.elim (fun z => .inl (hio z)) .inr) (.inl rfl))
/-! ### what a loop walks -/
def noOwn : Fl → Bool
  | .own => false
  | .lk => false
  | _ => true
/-- a strong value is frozen -/
theorem Gd.freeze {v : V} {d : D} {io : Bool} (g : Gd X p lk L σ H e ((v, d) :: st) ws) (hl : allF noLk d = true) (hio : io = false → p.O = []) : Gd X p lk L σ H e ((v, share io d) :: st) ws := by
  obtain ⟨S, G, A, B, g⟩ := g
  cases hs : g.stk with
  | @cons _ _ A1 B1 h2 rr =>
    let S' : Addr → Prop := fun a => S a ∨ a ∈ A1
    have zl : ZLe (zo X p S lk) (zo X p S' lk) := ⟨rfl, rfl, fun a h => .inl h, fun _ h => h, fun _ _ h => h, rfl⟩
    have hperm : (A ++ (A1 ++ B1)).Perm (A1 ++ (A ++ B1)) := List.perm_iff_count.mpr fun x => by simp only [List.count_append]; omega
    have hnd : (A1 ++ (A ++ B1)).Nodup := hperm.nodup_iff.mp g.nd
    have hdis : ∀ a ∈ A ++ B1, a ∉ A1 := fun a ha hb => (List.nodup_append.mp hnd).2.2 a hb a ha rfl
    have sub : ∀ a ∈ A ++ B1, a ∈ A ++ (A1 ++ B1) := fun a ha => hperm.mem_iff.mpr (List.mem_append_right _ ha)
    have sub1 : ∀ a ∈ A1, a ∈ A ++ (A1 ++ B1) := fun a ha => hperm.mem_iff.mpr (List.mem_append_left _ ha)
    have r : Rp (zo X p S' lk) G (.v v (share io d)) [] := h2.remark (P := noLk) (m := shF io) rfl rfl hl fun f a hf o hu hA => by
      cases f with
      | own =>
        have ha : a ∈ A1 := hA a (by simp [FlA])
        cases io with
        | true => exact ⟨rfl, .inr ha⟩
        | false =>
          refine ⟨rfl, .inr ha, ?_⟩
          rcases g.ow a (sub1 a ha) with q | q
          · exact q
          · rw [hio rfl] at q; cases q
      | fr => exact ⟨rfl, .inl o.1, o.2⟩
      | sh => exact ⟨rfl, .inl o⟩
      | ro => exact ⟨rfl, o⟩
      | lk => simp [noLk] at hf
    refine ⟨S', G, A, B1, ⟨g.ok, g.hL, g.lkd, fun a od q => (g.lkz a od q).elim (fun z => .inl (.inl z)) .inr, g.lke, g.env.mono zl .refl fun _ _ => rfl, .cons (A := []) r (rr.mono zl .refl fun _ _ => rfl), g.wk,
      (List.nodup_append.mp hnd).2.1, fun a ha => ⟨fun q => q.elim (g.dj a (sub a ha)).1 (hdis a ha), (g.dj a (sub a ha)).2⟩, fun a ha => g.ow a (sub a ha), fun a ha => .inl (g.s0 a ha), fun a ha => ?_, g.fr, g.oo, g.pin, g.nf⟩⟩
    rcases ha with ha | ha
    · exact g.sd a ha
    · refine ⟨?_, ?_⟩
      · rcases g.ow a (sub1 a ha) with q | q
        · exact .inr (.inl q)
        · exact .inr (.inr q)
      · obtain ⟨u, hu, _⟩ := h2.dom a ha
        exact ⟨u, hu⟩
/-- the iterator J gives the things ds, while what is pending stands -/
def ItD (X : Kx) (p : Par) (lk : List Addr) (L : Lk) (J : It) (ds : List DG.D) (st' : Stk) : Prop :=
  ∀ (L' : Lk), L'.lo = L.lo → ∀ (i : Nat) (σ : L2.St) (H : Hp) (e : Env) (front : Stk) (ws : List Wk), Gd X p lk L' σ H e (front ++ st') ws →
    (∀ d, ds[i]? = some d → J.go i H ∧ ∀ x H', J.yld i H x H' → Gd X p lk L' σ H' e ((x, d) :: (front ++ st')) ws) ∧ (ds[i]? = none → i = ds.length → J.stop i H)
/-- a source of a loop -/
def tI (X : Cx) (p : Par) (W : WX) (f : M (List DG.D)) : TI := fun σ H R => tR X p W f σ H fun lk L e st ws ds => ∀ J H' st' L', LkE X L L' → Gd X p lk L' σ H' e (st' ++ st) ws → ItD X p lk L' J ds (st' ++ st) → R J H'
theorem PImono {tg i : Expr} {t t' : TI} (h : PI X tg i t) (k : ∀ σ H R, t' σ H R → t σ H R) : PI X tg i t' := ⟨fun pins s σ H R I q => h.run pins s σ H R I (k σ H R q)⟩
theorem Gd.dropN : ∀ {st' : Stk}, Gd X p lk L σ H e (st' ++ st) ws → Gd X p lk L σ H e st ws
  | [], g => g
  | _ :: st', g => Gd.dropN (st' := st') g.drop
/-- an item of a frozen list that is pending -/
theorem Gd.item {front st' : Stk} {v : V} {f : Fl} {ds : List D} (g : Gd X p lk L σ H e (front ++ (v, .lst f ds) :: st') ws) (hn : allFL noOwn ds = true) : ∃ a xs, v = .ref a ∧ Rd H a (.lst xs) ∧ xs.length = ds.length ∧
    ∀ (i : Nat) x d, xs[i]? = some x → ds[i]? = some d → Gd X p lk L σ H e ((x, d) :: (front ++ (v, .lst f ds) :: st')) ws := by
  obtain ⟨S, G, A, B, g⟩ := g
  obtain ⟨B1, B2, s1, s2, rfl⟩ := RpS.unappend g.stk
  cases s2 with
  | @cons _ _ B3 B4 r rr =>
    obtain ⟨a, xs, C, e1, at0, o, rl, q⟩ := r.lst_inv
    have e1 : v = .ref a := e1
    subst e1
    refine ⟨a, xs, rfl, by rw [g.hL]; exact lockAll_rd g.lkd at0.rd, rl.lenL, fun i x d hx hd => ?_⟩
    obtain ⟨x', A0, A1, h1, h2, h3, _⟩ := rl.focL hd
    rw [hx] at h1
    cases h1
    -- it owns nothing
    have hA : A0 = [] := by
      have r2 := h2.remark (z' := zo X p S lk) (m := id) (P := noOwn) rfl rfl (show allF noOwn d = true from allFL_get hn hd) fun f a hf o _ _ => by cases f <;> first | exact ⟨rfl, o⟩ | (simp [noOwn] at hf)
      have : ∀ b ∈ A0, False := fun b hb => by
        have key : ∀ {g' : Sg} {A' : List Addr}, Rp (zo X p S lk) G g' A' → allS noOwn g' = true → A' = [] := by
          intro g' A' hr hp
          induction hr with
          | tup _ _ ih => exact ih hp
          | @lst f _ _ _ _ _ _ _ ih => simp only [allS, allF, Bool.and_eq_true] at hp; rw [ih hp.2]; cases f <;> first | rfl | (simp [noOwn] at hp)
          | @dk f _ _ _ _ _ _ _ _ ih => simp only [allS, allF, Bool.and_eq_true] at hp; rw [ih hp.2]; cases f <;> first | rfl | (simp [noOwn] at hp)
          | @dt f _ _ _ _ _ _ _ _ ih => simp only [allS, allF, Bool.and_eq_true] at hp; rw [ih hp.2]; cases f <;> first | rfl | (simp [noOwn] at hp)
          | @ins f _ _ _ _ _ _ _ _ _ _ _ ih => simp only [allS, allF, Bool.and_eq_true] at hp; rw [ih hp.2]; cases f <;> first | rfl | (simp [noOwn] at hp)
          | @exc f _ _ _ _ _ _ _ _ _ _ _ _ _ ih => simp only [allS, allF, Bool.and_eq_true] at hp; exact ih hp.2
          | cons _ _ i1 i2 => simp only [allS, allFL, Bool.and_eq_true] at hp; rw [i1 hp.1, i2 hp.2]; rfl
          | kcons _ _ i1 i2 => simp only [allS, allFK, Bool.and_eq_true] at hp; rw [i1 hp.1, i2 hp.2]; rfl
          | tcons _ _ i1 i2 => simp only [allS, allFT, Bool.and_eq_true] at hp; rw [i1 hp.1, i2 hp.2]; rfl
          | scons _ _ i1 i2 => simp only [allS, allFS, Bool.and_eq_true] at hp; rw [i1 hp.1, i2 hp.2]; rfl
          | _ => rfl
        rw [key h2 (allFL_get hn hd)] at hb
        cases hb
      cases A0 with
      | nil => rfl
      | cons b r => exact (this b List.mem_cons_self).elim
    subst hA
    exact ⟨S, G, A, B1 ++ (B3 ++ B4), g.less g.env (.cons (A := []) h2 g.stk) g.wk ⟨[], .refl _⟩ g.pin⟩
def frzL (io : Bool) (d : D) : M (List D) := match d with
  | .lst f ds => if allF noLk (.lst f ds) ∧ allFL noOwn (mapFL (shF io) ds) then .ret (mapFL (shF io) ds) else .bad
  | _ => .bad
theorem pi_lstM {tg : Expr} {io : Bool} (hio : io = false → p.O = []) (ha : PE X a (tV X p W f)) : PI X tg a (tI X p W (f.bind (frzL io))) :=
  PImono (pi_list ha) fun σ H R q => tR_mono (tR_bind q) fun lk L e st ws d q v H1 g1 => by
    cases d with
    | lst fl ds =>
      unfold frzL at q
      dsimp only at q
      by_cases hz : allF noLk (.lst fl ds) = true ∧ allFL noOwn (mapFL (shF io) ds) = true
      · rw [if_pos hz] at q
        have g2 : Gd X p lk L σ H1 e ((v, .lst (shF io fl) (mapFL (shF io) ds)) :: st) ws := g1.freeze hz.1 hio
        obtain ⟨a, xs, rfl, rd, hl, _⟩ := Gd.item (front := []) g2 hz.2
        refine ⟨a, rfl, ⟨xs, .inl rd⟩, q (Itl X.K a) H1 [(.ref a, .lst (shF io fl) (mapFL (shF io) ds))] L .refl g2 fun L' _ i σ' H' e' front ws' g' => ?_⟩
        obtain ⟨a', xs', e1, rd', hl', k⟩ := Gd.item (st' := st) g' hz.2
        cases e1
        refine ⟨fun d hd => ?_, fun hn _ => ⟨xs', .inl rd', by rw [hl']; exact List.getElem?_eq_none_iff.mp hn⟩⟩
        have hi : i < xs'.length := by rw [hl']; exact (List.getElem?_eq_some_iff.mp hd).1
        refine ⟨⟨xs', xs'[i], .inl rd', List.getElem?_eq_getElem hi⟩, fun x H'' ⟨hy1, hy2⟩ => ?_⟩
        subst hy1
        exact k i x d (hy2 xs' (.inl rd')) hd
      · rw [if_neg hz] at q; exact False.elim q
    | _ => exact False.elim q
def loopM (tg : D → Env → Option Env) (body : M Fw) : List D → M Fw
  | [] => .ret .next
  | d :: r => (liftT tg d).bind fun _ => body.bind fun fl => match fl with
    | .next => loopM tg body r
    | .cont => loopM tg body r
    | .brk => .ret .next
    | .ret d => .ret (.ret d)
theorem ps_forM {tg iter : Expr} {body : List Stmt} {fi : M (List D)} {ft : D → Env → Option Env} {fb : M Fw} (hp : PassesOwn (model X.prog X.w) X.A X.env X.xe) (hc : X.calm = true) (hi : PI X tg iter (tI X p W fi)) (hg : PG X tg (tG0 X p ft)) (hb : PSs X body (tS X p (WU X W) fb))
    (hs : ∀ x, foldedSetIterable iter X.env x = pure x) : PS X (.For tg iter body [] pos) (tS X p W (fi.bind (loopM ft fb))) :=
  PSmono (ps_unl (ps_for hp hc hi hg hb hs)) fun D σ H ⟨lk, L, e, st, gd, q⟩ => by
    refine ⟨lk, L, e, st, [], gd, Res.run_mono (run_bind q) (fun ds e1 q J H1 st' L' hk g1 hJ => ?_) XS.xw⟩
    refine ⟨fun i m σ H => m = ds.length - i ∧ i ≤ ds.length ∧ ∃ e, Gd X p lk L' σ H e (st' ++ st) [] ∧ (loopM ft fb (ds.drop i) e).run (FwK X p lk L st D) (XS X p W lk L st), ⟨ds.length, by simp, Nat.zero_le _, e1, g1, q⟩, ?_⟩
    rintro i m σ H ⟨rfl, hi, e, g, q⟩
    obtain ⟨k1, k2⟩ := hJ L' rfl i σ H e [] [] g
    by_cases hlt : i < ds.length
    · obtain ⟨go, yl⟩ := k1 ds[i] (List.getElem?_eq_getElem hlt)
      refine .inr ⟨go, fun σ' H' => ∃ e, Gd X p lk L' σ' H' e (st' ++ st) [] ∧ (loopM ft fb (ds.drop (i + 1)) e).run (FwK X p lk L st D) (XS X p W lk L st), fun σ' H' ⟨e', g', q'⟩ => ⟨ds.length - (i + 1), by omega, rfl, hlt, e', g', q'⟩, fun x H' y => ?_⟩
      have g2 := yl x H' y
      rw [List.drop_eq_getElem_cons hlt] at q
      obtain ⟨e2, he, q⟩ := run_lift (run_bind q)
      refine ⟨lk, L', e, st' ++ st, ds[i], e2, g2, he, fun σ2 H2 g3 => ?_⟩
      refine ⟨lk, L', e2, st' ++ st, g3, Res.run_mono (run_bind q) (fun fl e3 q => ?_) fun c fs e' z σ' cls d H' x => ?_⟩
      · cases fl with
        | next => exact fun σ' H' g' => ⟨e3, g', q⟩
        | cont => exact fun σ' H' g' => ⟨e3, g', q⟩
        | brk => exact fun σ' H' g' => Gd.unlock hk g'.dropN fun H2 g2 => q σ' H2 g2
        | ret d => exact fun v σ' H' g' => Gd.unlock hk (Gd.dropN (st' := st') (g'.perm (by exact List.perm_middle.symm))) fun H2 g2 => q v σ' H2 g2
      · obtain ⟨z1, z2⟩ := x
        rcases z2 with ⟨z2, zd, z3⟩ | ⟨dd, fv, y1, y0, y2, y3, y4⟩
        · exact Gd.unlock hk z3.dropN fun H2 g2 => z σ' cls d H2 ⟨z1, .inl ⟨z2, zd, g2⟩⟩
        · have g4 := Gd.dropN (st' := st') (y4.perm (st' := st' ++ ((fv.map (·.2)).zip (fs.map (·.2)) ++ st)) (by rw [← List.append_assoc, ← List.append_assoc]; exact List.Perm.append_right _ List.perm_append_comm))
          rcases Gd.unlock (Q := fun H2 => Gd X p lk L σ' H2 e' ((fv.map (·.2)).zip (fs.map (·.2)) ++ st) []) hk g4 (fun _ g => g) with g5 | ⟨d5, o5, u5, h5, n5, g5⟩
          · exact .inl (z σ' cls d H' ⟨z1, .inr ⟨dd, fv, y1, y0, y2, y3, g5⟩⟩)
          · refine .inr ⟨d5, o5, u5, h5, n5, z σ' cls d _ ⟨z1, .inr ⟨dd, fv, y1, y0, ?_, y3, g5⟩⟩⟩
            rw [upd_ne (fun e => by subst e; rw [y2] at h5; cases h5)]; exact y2
    · have e0 : i = ds.length := by omega
      subst e0
      rw [List.drop_length] at q
      exact .inl ⟨k2 (List.getElem?_eq_none_iff.mpr (Nat.le_refl _)) rfl, Gd.unlock hk g.dropN fun H2 g2 => q σ H2 g2⟩
end
end DG

set_option Elab.async false
set_option linter.all false
set_option maxHeartbeats 4000000
/-! DGl: ranges, comprehensions. -/
namespace DG
open PySem PySem.Spec PyProof.Rows L2
set_option autoImplicit false
section
variable {X : Cx} {p : Par} {W : WX} {lk : List Addr} {L : Lk} {σ : L2.St} {H : Hp} {e : Env} {st : Stk} {ws : List Wk} {a b c : Expr} {pos : Pos} {f g h : M D}
/-! ### ranges -/
def rng (lo : Int) (n : Nat) : List D := (List.range n).map fun (i : Nat) => .int (lo + i)
theorem rng_get (lo : Int) (n i : Nat) : (rng lo n)[i]? = if i < n then some (.int (lo + i)) else none := by
  unfold rng
  rw [List.getElem?_map]
  by_cases h : i < n
  · rw [if_pos h, List.getElem?_range h]; rfl
  · rw [if_neg h, List.getElem?_eq_none (by simpa using h)]; rfl
theorem itD_rng {lo : Int} {n : Nat} : ItD X p lk L (Itr lo n) (rng lo n) st := fun L' _ i σ H e front ws g => by
  rw [rng_get]
  by_cases h : i < n
  · rw [if_pos h]
    refine ⟨fun d hd => ?_, fun z _ => (by cases z)⟩
    cases hd
    refine ⟨h, fun x H' y => ?_⟩
    obtain ⟨y1, y2⟩ : H' = H ∧ x = .int (lo + i) := y
    subst y1 y2
    exact g.push fun z G _ _ => .int _
  · rw [if_neg h]
    exact ⟨fun d z => (by cases z), fun _ _ => Nat.le_of_not_lt h⟩
def rngOk (j : Int) : Prop := -(2 ^ 62) ≤ j ∧ j < 2 ^ 62
instance (j : Int) : Decidable (rngOk j) := by unfold rngOk; infer_instance
def rng1 : D → M (List D)
  | .int j => if rngOk j then .ret (rng 0 j.toNat) else .bad
  | _ => .bad
def rng2 : D → D → M (List D)
  | .int i, .int j => if rngOk i ∧ rngOk j then .ret (rng i (j - i).toNat) else .bad
  | _, _ => .bad
theorem pi_rng1 {tg : Expr} {p1 : Pos} (hg : Gl X "range") (hm : X.mg "range" = none) (ha : PE X a (tW X p W f)) (hs : starEach [a] X.env = [(false, eval a X.env)]) :
    PI X tg (.Call (.Name "range" p1) [a] [] pos) (tI X p W (f.bind rng1)) :=
  PImono (pi_range1 hg hm (pa_cons ha pa_nil hs) hs) fun σ H R q => tR_mono (tR_bind q) fun lk L e st ws d q v H1 g1 => by
    cases d with
    | int j =>
      unfold rng1 at q
      dsimp only at q
      by_cases hz : rngOk j
      · rw [if_pos hz] at q
        exact ⟨j, by rw [Wr_int (g1.wr List.mem_cons_self)], hz.1, hz.2, q _ H1 [] L .refl g1.dropW itD_rng⟩
      · rw [if_neg hz] at q; exact False.elim q
    | _ => exact False.elim q
theorem pi_rng2 {tg : Expr} {p1 : Pos} (hg : Gl X "range") (hm : X.mg "range" = none) (ha : PE X a (tW X p W f)) (hb : PE X b (tW X p W g)) (hs : starEach [a, b] X.env = [(false, eval a X.env), (false, eval b X.env)]) (hs2 : starEach [b] X.env = [(false, eval b X.env)]) :
    PI X tg (.Call (.Name "range" p1) [a, b] [] pos) (tI X p W (f.bind fun x => g.bind fun y => rng2 x y)) :=
  PImono (pi_range2 hg hm (pa_cons ha (pa_cons hb pa_nil hs2) (by rw [hs, hs2])) hs hs2) fun σ H R q => by
    refine two_of (R := fun x y H2 => ∃ i j : Int, [x, y] = [.int i, .int j] ∧ (-(2 ^ 62) ≤ i ∧ i < 2 ^ 62 ∧ -(2 ^ 62) ≤ j ∧ j < 2 ^ 62) ∧ R (Itr i (j - i).toNat) H2) q (fun _ q => q) (fun _ _ q => q) fun lk L e st ws x y dx dy H g q => ?_
    cases dx with
    | int i =>
      cases dy with
      | int j =>
        unfold rng2 at q
        dsimp only at q
        by_cases hz : rngOk i ∧ rngOk j
        · rw [if_pos hz] at q
          exact ⟨i, j, by rw [Wr_int (g.wr List.mem_cons_self), Wr_int (g.wr (List.mem_cons_of_mem _ List.mem_cons_self))], ⟨hz.1.1, hz.1.2, hz.2.1, hz.2.2⟩, q _ H [] L .refl g.dropW.dropW itD_rng⟩
        · rw [if_neg hz] at q; exact False.elim q
      | _ => exact False.elim q
    | _ => exact False.elim q
/-! ### comprehensions -/
/-- the names of a comprehension are forgotten -/
def killAll (vs : List Nat) (e : Env) : Env := vs.foldr (fun i e => e.set i none) e
theorem Gd.slots {σ' : L2.St} (g : Gd X p lk L σ H e st ws) (hl : σ'.length = σ.length) (h : ∀ i, (∃ d, e[i]? = some (some d)) ∨ i ∈ p.nl → σ'[i]? = σ[i]?) (h0 : 0 ∈ p.nl) : Gd X p lk L σ' H e st ws := by
  obtain ⟨S, G, A, B, g⟩ := g
  have env : ∀ {σ σ' : List (Option V)} {e : Env} {A : List Addr}, RpE (zo X p S lk) G σ e A → σ'.length = σ.length → (∀ (i : Nat), (∃ d, e[i]? = some (some d)) → σ'[i]? = σ[i]?) → RpE (zo X p S lk) G σ' e A := by
    intro σ σ' e A h
    induction h generalizing σ' with
    | nil => intro hl _; rw [List.eq_nil_of_length_eq_zero hl]; exact .nil
    | @skip x σ e A r ih =>
      intro hl k
      cases σ' with
      | nil => simp at hl
      | cons y σ' => exact .skip (ih (by simpa using hl) fun i hi => by simpa using k (i + 1) (by simpa using hi))
    | @cons v d σ e A B r rr ih =>
      intro hl k
      cases σ' with
      | nil => simp at hl
      | cons y σ' =>
        have e0 : some y = some (some v) := by simpa using k 0 ⟨d, rfl⟩
        cases e0
        exact .cons r (ih (by simpa using hl) fun i hi => by simpa using k (i + 1) (by simpa using hi))
  exact ⟨S, G, A, B, g.less (env g.env hl fun i hi => h i (.inl hi)) g.stk (fun w hw => (g.wk w hw).slots fun i hi => h i (.inr hi)) ⟨[], .refl _⟩ fun v hv => by rw [h 0 (.inr h0)]; exact g.pin v hv⟩
/-- a thing is hidden, changed while hidden, shown again -/
theorem Gd.hide (g : Gd X p lk L σ H e st ws) {D : Addr} {o : HO} (hD : H D = none) (hm : Mut (some o)) : Gd X p lk ⟨L.lo, (D, o) :: L.hd⟩ σ (upd H D o) e st ws ∧ L.hd.lookup D = none := by
  obtain ⟨S, G, A, B, g⟩ := g
  obtain ⟨f1, ⟨f2, f2'⟩, _⟩ := g.free hD
  refine ⟨⟨S, G, A, B, ⟨g.ok, by rw [g.hL, lockAll_hide], ⟨g.lkd.lo, fun b u q => ?_⟩, g.lkz, g.lke, g.env, g.stk, g.wk, g.nd, g.dj, g.ow, g.s0, g.sd, g.fr, g.oo, g.pin, g.nf⟩⟩, f2'⟩
  have q : ((D, o) :: L.hd).lookup b = some u := q
  rw [List.lookup_cons] at q
  by_cases z : b = D
  · subst z
    rw [show (b == b) = true from beq_self_eq_true b] at q
    cases q
    exact ⟨f1, hm⟩
  · rw [beq_false_of_ne z] at q
    exact g.lkd.hd b u q
theorem Gd.rehide {D : Addr} {o o' : HO} {lo : List (Addr × Obj)} {hd : List (Addr × HO)} (g : Gd X p lk ⟨lo, (D, o) :: hd⟩ σ H e st ws) (hm : Mut (some o')) : Gd X p lk ⟨lo, (D, o') :: hd⟩ σ (upd H D o') e st ws := by
  obtain ⟨S, G, A, B, g⟩ := g
  refine ⟨S, G, A, B, ⟨g.ok, ?_, ⟨g.lkd.lo, fun b u q => ?_⟩, g.lkz, g.lke, g.env, g.stk, g.wk, g.nd, g.dj, g.ow, g.s0, g.sd, g.fr, g.oo, g.pin, g.nf⟩⟩
  · rw [g.hL, lockAll_hide (L := ⟨lo, hd⟩), upd_upd, ← lockAll_hide]
  · have q : ((D, o') :: hd).lookup b = some u := q
    rw [List.lookup_cons] at q
    by_cases z : b = D
    · subst z
      rw [show (b == b) = true from beq_self_eq_true b] at q
      cases q
      exact ⟨(g.lkd.hd b o (by simp)).1, hm⟩
    · rw [beq_false_of_ne z] at q
      exact g.lkd.hd b u (by show ((D, o) :: hd).lookup b = some u; rw [List.lookup_cons, beq_false_of_ne z]; exact q)
theorem Gd.hid {D : Addr} {o : HO} {lo : List (Addr × Obj)} {hd : List (Addr × HO)} (g : Gd X p lk ⟨lo, (D, o) :: hd⟩ σ H e st ws) : H D = some o := by
  obtain ⟨S, G, A, B, g⟩ := g
  rw [g.hL]
  exact lockAll_hd (by simp)
theorem Gd.unhide {front st0 : Stk} {D : Addr} {o : HO} (g : Gd X p lk ⟨L.lo, (D, o) :: L.hd⟩ σ H e (front ++ st0) ws) (hD : L.hd.lookup D = none) (d : DG.D) (own : Bool)
    (mk : ∀ (z : Zo) (G : Hp) (B : List Addr), z.K = X.K → z.gm = X.mg → D ∉ z.lk → G D = some o → RpS z G front B → Rp z G (.v (.ref D) d) ((if own then [D] else []) ++ B)) : Gd X p lk L σ H e ((.ref D, d) :: st0) ws := by
  obtain ⟨S, G, A, B, g⟩ := g
  have hG : G D = none := (g.lkd.hd D o (by simp)).1
  have hlo : L.lo.lookup D = none := by
    cases q : L.lo.lookup D with
    | none => rfl
    | some od => obtain ⟨u, hu, _⟩ := g.lkd.lo D od q; rw [hG] at hu; cases hu
  have g0 : Gd X p lk L σ (lockAll L G) e (front ++ st0) ws := by
    refine ⟨S, G, A, B, ⟨g.ok, rfl, ⟨g.lkd.lo, fun b u q => g.lkd.hd b u ?_⟩, g.lkz, g.lke, g.env, g.stk, g.wk, g.nd, g.dj, g.ow, g.s0, g.sd, g.fr, g.oo, g.pin, g.nf⟩⟩
    have z : b ≠ D := by rintro rfl; rw [hD] at q; cases q
    show ((D, o) :: L.hd).lookup b = some u
    rw [List.lookup_cons, beq_false_of_ne z]; exact q
  have h0 : lockAll L G D = none := by rw [lockAll_eq hD, hG, hlo]; rfl
  have := Gd.alloc g0 h0 o d own (fun z G B kK kg hz hg _ r => mk z G B kK kg hz hg r) fun x u z => by
    have m := (g.lkd.hd D o (by simp)).2
    rw [z] at m; exact m.elim
  rw [← lockAll_hide, ← g.hL] at this
  exact this
theorem wipe_get (σ : L2.St) (i : Nat) : ∀ vs : List Nat, (wipe σ vs)[i]? = if i ∈ vs ∧ i < σ.length then some none else σ[i]?
  | [] => by simp [wipe]
  | v :: vs => by
    unfold wipe
    by_cases hv : v = i
    · subst hv
      by_cases hl : v < σ.length
      · rw [List.getElem?_set_self (by rw [wipe_length]; exact hl), if_pos ⟨List.mem_cons_self, hl⟩]
      · rw [List.getElem?_eq_none (by rw [List.length_set, wipe_length]; omega), if_neg (fun z => hl z.2), List.getElem?_eq_none (by omega)]
    · rw [List.getElem?_set_ne hv, wipe_get σ i vs]
      by_cases hm : i ∈ vs ∧ i < σ.length
      · rw [if_pos hm, if_pos ⟨List.mem_cons_of_mem _ hm.1, hm.2⟩]
      · rw [if_neg hm, if_neg fun z => hm ⟨(List.mem_cons.mp z.1).resolve_left (fun q => hv q.symm), z.2⟩]
theorem wipe_eq {σ σ' : L2.St} {vs : List Nat} (hl : σ'.length = σ.length) (h : ∀ i, i ∉ vs → σ'[i]? = σ[i]?) : wipe σ' vs = wipe σ vs := by
  apply List.ext_getElem?
  intro i
  rw [wipe_get, wipe_get, hl]
  by_cases hm : i ∈ vs ∧ i < σ.length
  · rw [if_pos hm, if_pos hm]
  · rw [if_neg hm, if_neg hm]
    by_cases hv : i ∈ vs
    · have : σ.length ≤ i := by
        by_cases hq : i < σ.length
        · exact absurd ⟨hv, hq⟩ hm
        · omega
      rw [List.getElem?_eq_none (by omega), List.getElem?_eq_none (by omega)]
    · exact h i hv
theorem killAll_get (vs : List Nat) (e : Env) (i : Nat) : (∃ d, (killAll vs e)[i]? = some (some d)) → i ∉ vs ∧ (killAll vs e)[i]? = e[i]? := by
  induction vs with
  | nil => exact fun _ => ⟨by simp, rfl⟩
  | cons v vs ih =>
    rintro ⟨d, hd⟩
    have hd : ((killAll vs e).set v none)[i]? = some (some d) := hd
    by_cases hv : v = i
    · subst hv
      by_cases hl : v < (killAll vs e).length
      · rw [List.getElem?_set_self hl] at hd; cases hd
      · rw [List.getElem?_eq_none (by rw [List.length_set]; omega)] at hd; cases hd
    · rw [List.getElem?_set_ne hv] at hd
      obtain ⟨h1, h2⟩ := ih ⟨d, hd⟩
      refine ⟨by simp only [List.mem_cons, not_or]; exact ⟨fun z => hv z.symm, h1⟩, ?_⟩
      show ((killAll vs e).set v none)[i]? = e[i]?
      rw [List.getElem?_set_ne hv]; exact h2
theorem Gd.killAll : ∀ (vs : List Nat) {e : Env}, Gd X p lk L σ H e st ws → Gd X p lk L σ H (killAll vs e) st ws
  | [], _, g => g
  | v :: vs, _, g => (Gd.killAll vs g).kill v
/-- a target among the names own -/
def tGo (X : Kx) (p : Par) (own : List Nat) (f : DG.D → Env → Option Env) : TG := fun v σ H Q => ∃ lk L e st ws d e', Gd X p lk L σ H e ((v, d) :: st) ws ∧ f d e = some e' ∧ ∀ σ' H', σ'.length = σ.length → (∀ i, i ∉ own → σ'[i]? = σ[i]?) → Gd X p lk L σ' H' e' st ws → Q σ' H'
theorem pg_nameO {i : Nat} {x : Str} {io : Bool} {pos' : Pos} {own : List Nat} (hio : io = false → p.io = none) (hN : X.N.Nodup) (hi : X.N[i]? = some x) (hx : Loc X.env.scope x) (hf : X.fn x = true ∨ X.env.scope.names.lookup x = some .local) (hn : i ∉ p.nl) (ho : i ∈ own) :
    PG X (.Name x pos') (tGo X p own (putE io i)) :=
  PGmono (pg_name hN hi hx hf) fun v σ H Q ⟨lk, L, e, st, ws, d, e', g, he, q⟩ => by
    obtain ⟨h1, h2, rfl⟩ := putE_of he
    exact q _ _ (List.length_set ..) (fun j hj => List.getElem?_set_ne fun z => hj (by subst z; exact ho)) (g.store h1 (h2.elim (fun z => .inl (hio z)) .inr) (.inr hn))
def noexc {α : Type} (f : M α) : M α := fun e => match f e with
  | .exc _ _ _ => .bad
  | r => r
theorem run_noexc {α : Type} {f : M α} {e : Env} {ok : α → Env → Prop} {ex ex' : Str → List (Str × D) → Env → Prop} (h : (noexc f e).run ok ex) : (f e).run ok ex' := by
  unfold noexc at h
  cases q : f e with
  | ok a e' => rw [q] at h; exact h
  | exc => rw [q] at h; exact False.elim h
  | bad => rw [q] at h; exact h
def W0 : WX := fun _ _ _ _ => False
def lcLoop (own : List Nat) (ft : D → Env → Option Env) (ftest : M Bool) (fe : M D) : List D → List D → M D
  | [], acc => .ret (.lst .own acc)
  | d :: r, acc => (liftT ft d).bind fun _ => (noexc ftest).bind fun b =>
    (if b then (noexc fe).bind fun x => if acc.length < sizeLine then .ret (acc ++ [x]) else .bad else .ret acc).bind fun acc' => fun e => lcLoop own ft ftest fe r acc' (killAll own e)
def lcM (own : List Nat) (fi : M (List D)) (ft : D → Env → Option Env) (ftest : M Bool) (fe : M D) : M D := fi.bind fun ds => fun e => lcLoop own ft ftest fe ds [] (killAll own e)
def tTs (X : Kx) (p : Par) (W : WX) (f : M Bool) : TT := tT X p W f
theorem lc_imp {vs : List Nat} {fi : M (List D)} {ft : D → Env → Option Env} {ftest : M Bool} {fe : M D} {Q : VK} (h0 : 0 ∈ p.nl) (hn : ∀ i ∈ vs, i ∉ p.nl) (q : tV X p W (lcM vs fi ft ftest fe) σ H Q) :
    tLc (tI X p W fi) (tGo X p vs ft) (tT X p W0 ftest) (tV X p W0 fe) vs σ H (fun v => UnQ X (Q v)) :=
  tR_mono (tR_bind q) fun lk L e1 st ws ds q J H1 st' L' hk g1 hJ D hD => by
    have dead : ∀ i, i ∈ vs → ¬ ∃ d, (DG.killAll vs e1)[i]? = some (some d) := fun i hi h => (killAll_get vs e1 i h).1 hi
    have g1 := Gd.killAll vs g1
    replace q : (lcLoop vs ft ftest fe ds [] (DG.killAll vs e1)).run _ _ := q
    generalize DG.killAll vs e1 = e1 at dead g1 q
    have g0 : Gd X p lk L' (wipe σ vs) H1 e1 (st' ++ st) ws := g1.slots (wipe_length σ vs) (fun i hi => by
      rw [wipe_get]
      refine if_neg fun z => ?_
      rcases hi with hi | hi
      · exact dead i z.1 hi
      · exact absurd hi (hn i z.1)) h0
    obtain ⟨g2, hh⟩ := g0.hide (o := .lst []) hD trivial
    -- from a state of the block to a state between two turns
    have back : ∀ {L'' : Lk} {σ2 : L2.St} {H2 : Hp} {e2 : Env} {st2 : Stk}, σ2.length = σ.length → (∀ i, i ∉ vs → σ2[i]? = σ[i]?) → Gd X p lk L'' σ2 H2 e2 st2 ws → Gd X p lk L'' (wipe σ vs) H2 (killAll vs e2) st2 ws := fun {L'' σ2 H2 e2 st2} hl ho g => by
      refine (Gd.killAll vs g).slots (by rw [wipe_length, hl]) (fun i hi => ?_) h0
      have ni : i ∉ vs := by
        rcases hi with hi | hi
        · exact (killAll_get vs e2 i hi).1
        · exact fun z => hn i z hi
      rw [wipe_get, if_neg fun z => ni z.1, ho i ni]
    have deadK : ∀ (e2 : Env) (i : Nat), i ∈ vs → ¬ ∃ d, (killAll vs e2)[i]? = some (some d) := fun e2 i hi hd => (killAll_get vs e2 i hd).1 hi
    refine ⟨fun i m H => m = ds.length - i ∧ i ≤ ds.length ∧ ∃ (e : Env) (xs : List V) (as : List DG.D), xs.length = as.length ∧ Gd X p lk ⟨L'.lo, (D, .lst xs) :: L'.hd⟩ (wipe σ vs) H e (xs.zip as ++ (st' ++ st)) ws ∧ (∀ i, i ∈ vs → ¬ ∃ d, e[i]? = some (some d)) ∧
      (lcLoop vs ft ftest fe (ds.drop i) as e).run (fun d e' => ∀ v H', Gd X p lk L σ H' e' ((v, d) :: st) ws → Q v H') (XW X p W lk L σ st), ⟨ds.length, by simp, Nat.zero_le _, e1, [], [], rfl, g2, dead, q⟩, ?_⟩
    rintro i m H ⟨rfl, hi, e, xs, as, hl, g, dd, q⟩
    obtain ⟨k1, k2⟩ := hJ ⟨L'.lo, (D, .lst xs) :: L'.hd⟩ rfl i (wipe σ vs) H e (xs.zip as) ws g
    by_cases hlt : i < ds.length
    · obtain ⟨go, yl⟩ := k1 ds[i] (List.getElem?_eq_getElem hlt)
      refine .inr ⟨go, fun H' => ∃ (e : Env) (xs : List V) (as : List DG.D), xs.length = as.length ∧ Gd X p lk ⟨L'.lo, (D, .lst xs) :: L'.hd⟩ (wipe σ vs) H' e (xs.zip as ++ (st' ++ st)) ws ∧ (∀ i, i ∈ vs → ¬ ∃ d, e[i]? = some (some d)) ∧
        (lcLoop vs ft ftest fe (ds.drop (i + 1)) as e).run (fun d e' => ∀ v H', Gd X p lk L σ H' e' ((v, d) :: st) ws → Q v H') (XW X p W lk L σ st), fun H' ⟨e', xs', as', a1, a2, a3, a4⟩ => ⟨ds.length - (i + 1), by omega, rfl, hlt, e', xs', as', a1, a2, a3, a4⟩, fun x H' y => ?_⟩
      have g3 := yl x H' y
      rw [List.drop_eq_getElem_cons hlt] at q
      obtain ⟨e2, hft, q⟩ := run_lift (run_bind q)
      refine ⟨lk, _, e, xs.zip as ++ (st' ++ st), ws, ds[i], e2, g3, hft, fun σ2 H2 hsl hso g4 => ?_⟩
      have hsl' : σ2.length = σ.length := by rw [hsl, wipe_length]
      have hso' : ∀ j, j ∉ vs → σ2[j]? = σ[j]? := fun j hj => by rw [hso j hj, wipe_get, if_neg fun z => hj z.1]
      refine ⟨wipe_eq hsl' hso', lk, _, e2, xs.zip as ++ (st' ++ st), ws, g4, ?_⟩
      refine Res.run_mono (run_noexc (ex' := fun _ _ _ => False) (run_bind q)) (fun b e3 q H3 g5 => ?_) fun _ _ _ z => z.elim
      cases b with
      | false =>
        rw [if_neg Bool.false_ne_true]
        exact ⟨killAll vs e3, xs, as, hl, back hsl' hso' g5, deadK e3, q⟩
      | true =>
        rw [if_pos rfl]
        refine ⟨lk, _, e3, xs.zip as ++ (st' ++ st), ws, g5, ?_⟩
        refine Res.run_mono (run_noexc (ex' := fun _ _ _ => False) (run_bind (run_bind q))) (fun y e4 q v H4 g6 => ?_) fun _ _ _ z => z.elim
        refine ⟨xs, g6.hid, ?_⟩
        by_cases hsz : as.length < sizeLine
        · rw [if_pos hsz] at q
          refine ⟨by rw [hl]; exact hsz, killAll vs e4, xs ++ [v], as ++ [y], by simp [hl], back hsl' hso' ((g6.rehide (o' := .lst (xs ++ [v])) trivial).perm ?_), deadK e4, q⟩
          rw [List.zip_append hl, List.append_assoc]
          exact List.perm_middle.symm
        · rw [if_neg hsz] at q; exact False.elim q
    · have e0 : i = ds.length := by omega
      subst e0
      rw [List.drop_length] at q
      refine .inl ⟨k2 (List.getElem?_eq_none_iff.mpr (Nat.le_refl _)) rfl, ?_⟩
      have g6 : Gd X p lk L' (wipe σ vs) H e ((.ref D, .lst .own as) :: (st' ++ st)) ws := Gd.unhide g hh (.lst .own as) true fun z G B kK kg hz hG rS => by
        have := rS.toL
        rw [zip_fst hl, zip_snd hl] at this
        exact .lst (f := .own) hG hz this
      have g7 : Gd X p lk L' σ H e ((.ref D, .lst .own as) :: (st' ++ st)) ws := g6.slots (wipe_length σ vs).symm (fun i hi => by
        rw [wipe_get, if_neg fun z => ?_]
        rcases hi with hi | hi
        · exact dd i z.1 hi
        · exact absurd hi (hn i z.1)) h0
      exact Gd.unlock hk (Gd.dropN (st' := st') (g7.perm List.perm_middle.symm)) fun H2 g2 => q _ H2 g2
theorem pe_lcM {elt tg iter : Expr} {ifs : List Expr} {scope : Scope} {own : List (Str × Nat)} {fi : M (List D)} {ft : D → Env → Option Env} {ftest : M Bool} {fe : M D} (hc : X.calm = true) (hN : X.N.Nodup) (h0 : 0 ∈ p.nl) (hn : ∀ i ∈ own.map (·.2), i ∉ p.nl)
    (hi : PI X tg iter (tI X p W fi)) (ok : BlkOk X.N X.env.scope scope own)
    (hg : ∀ (s : Shared) (H : Hp) (C : Addr) (cl : List (Str × Addr)) (fp : List Addr), PG (X.blk s H scope (compEnvC scope cl C X.env) fp) tg (tGo X p (own.map (·.2)) ft))
    (ht : ∀ (s : Shared) (H : Hp) (C : Addr) (cl : List (Str × Addr)) (fp : List Addr), PTs (X.blk s H scope (compEnvC scope cl C X.env) fp) ifs (tT X p W0 ftest))
    (he : ∀ (s : Shared) (H : Hp) (C : Addr) (cl : List (Str × Addr)) (fp : List Addr), PE (X.blk s H scope (compEnvC scope cl C X.env) fp) elt (tV X p W0 fe)) (hs : ∀ x, foldedSetIterable iter X.env x = pure x) :
    PE X (.ListComp elt [⟨tg, iter, ifs, 0⟩] scope pos) (tV X p W (lcM (own.map (·.2)) fi ft ftest fe)) :=
  PEmono (pe_unl (pe_lc hc hN hi ok hg ht he hs)) fun σ H Q q => lc_imp h0 hn q
end
end DG

set_option Elab.async false
set_option linter.all false
set_option maxHeartbeats 4000000
/-! DGm: defs: what a def promises, its call, its body. -/
namespace DG
open PySem PySem.Spec PyProof.Rows L2
set_option autoImplicit false
inductive FRes where
  | ok (d : D) | exc (c : Str) (fs : List (Str × D)) | bad
def noRo : Fl → Bool | .ro => false | .lk => false | _ => true
/-- what a def hands out: a list frozen in it, of things that own nothing, is the asker's own -/
def outD (d : D) : Option D := match d with
  | .lst .fr ds => if immL ds then some (.lst .own ds) else if allFL noRo ds then some d else none
  | d => if allF noRo d then some d else none
def outS : List (Str × D) → Option (List (Str × D))
  | [] => some []
  | (k, d) :: r => match outD d, outS r with
    | some d', some r' => some ((k, d') :: r')
    | _, _ => none
def fnRes : Res Fw → FRes
  | .ok (.ret d) _ => match outD d with
    | some d' => .ok d'
    | none => .bad
  | .ok .next _ => .ok .non
  | .ok _ _ => .bad
  | .exc c fs _ => if allFS noRo fs then .exc c fs else .bad
  | .bad => .bad
def fnRun (n : Nat) (body : M Fw) (ds : List D) : FRes := if ds.length ≤ n then fnRes (body (ds.map some ++ List.replicate (n - ds.length) none)) else .bad
/-- what came out of a call -/
structure OutV (K : PySem.W.Frag) (mg : Str → Option Value) (H : Hp) (S : Addr → Prop) (S' : Addr → Prop) (H' : Hp) (B : List Addr) : Prop where
  keep : ∀ a o, H a = some o → H' a = some o
  s0 : ∀ a, S a → S' a
  s1 : ∀ a, S' a → (S a ∨ H a = none) ∧ ∃ o, H' a = some o
  nd : B.Nodup
  nw : ∀ a ∈ B, H a = none ∧ ¬ S' a
  nf : ∀ a, H a = none → ∀ x u, H' a ≠ some (.frz x u)
def zo0 (K : PySem.W.Frag) (mg : Str → Option Value) (S R : Addr → Prop) (H : Hp) : Zo := ⟨K, mg, S, R, H, []⟩
def domP (H : Hp) : Addr → Prop := fun a => ∃ o, H a = some o
/-- a def of n parameters that does f -/
def spF (K : PySem.W.Frag) (mg : Str → Option Value) (n : Nat) (f : List D → FRes) : Sp := fun vs H Q E => ∃ (ds : List D) (S : Addr → Prop), vs.length = ds.length ∧ ds.length = n ∧ (∀ a, S a → domP H a) ∧ (∀ a x u, H a = some (.frz x u) → Lkb u) ∧ (∀ w ∈ vs.zip ds, Rp (zo0 K mg S (domP H) H) H (.v w.1 w.2) []) ∧
  match f ds with
  | .ok d => allF noRo d = true → ∀ v H' S' B, OutV K mg H S S' H' B → Rp (zo0 K mg S' (fun _ => False) H) H' (.v v d) B → Q v H'
  | .exc c fs => allFS noRo fs = true → ∀ cls dd H' S' B, mg c = some cls → OutV K mg H S S' H' B → ((fs = [] ∧ dd = none ∧ B = []) ∨ ∃ d fv, dd = some d ∧ H d = none ∧ H' d = some (.xd fv) ∧ Rp (zo0 K mg S' (fun _ => False) H) H' (.s fv fs) B) → E cls dd H'
  | .bad => False
/-- without what is lent, the zone of the lent things does not matter -/
theorem Rp.noR {z z' : Zo} {H : Hp} {g : Sg} {A : List Addr} (h : Rp z H g A) (hp : allS noRo g = true) (kK : z'.K = z.K) (kg : z'.gm = z.gm) (kS : ∀ a, z.S a → z'.S a) (k0 : ∀ a, z.S a → z.H0 a = none → z'.H0 a = none) (kl : ∀ a ∈ A, a ∉ z'.lk) : Rp z' H g A := by
  have fo : ∀ {f : Fl} {a : Addr} {B : List Addr}, FlOk z a f → noRo f = true → (∀ b ∈ FlA f a ++ B, b ∉ z'.lk) → FlOk z' a f := fun {f a B} o n k => by
    cases f with
    | own => exact k a (by simp [FlA])
    | fr => exact ⟨kS _ o.1, k0 _ o.1 o.2⟩
    | sh => exact kS _ o
    | ro => simp [noRo] at n
    | lk => simp [noRo] at *
  induction h with
  | non => exact .non
  | bl b => exact .bl b
  | int i => exact .int i
  | str x => exact .str x
  | ty n => exact .ty n
  | fn e => exact .fn (by rw [kg]; exact e)
  | tup t _ ih => exact .tup (by rw [kK]; exact t) (ih hp kl)
  | lst a o _ ih =>
    simp only [allS, allF, Bool.and_eq_true] at hp
    exact .lst a (fo o hp.1 kl) (ih hp.2 fun b hb => kl b (List.mem_append_right _ hb))
  | dk a o n _ ih =>
    simp only [allS, allF, Bool.and_eq_true] at hp
    exact .dk a (fo o hp.1 kl) n (ih hp.2 fun b hb => kl b (List.mem_append_right _ hb))
  | dt a o n _ ih =>
    simp only [allS, allF, Bool.and_eq_true] at hp
    exact .dt a (fo o hp.1 kl) n (ih hp.2 fun b hb => kl b (List.mem_append_right _ hb))
  | ins a o e _ ih =>
    simp only [allS, allF, Bool.and_eq_true] at hp
    exact .ins a (fo o hp.1 kl) (by rw [kg]; exact e) (ih hp.2 fun b hb => kl b (List.mem_append_right _ hb))
  | @kd f a kvs e at0 o => exact .kd e at0 (fo (B := []) o hp (by rw [e]; exact fun b hb => by cases hb))
  | @exc f a C dd c fs es B e at0 o x q _ ih =>
    simp only [allS, allF, Bool.and_eq_true] at hp
    have fo' : ∀ {a : Addr}, FlOk z a f → FlOk z' a f := fun {a} o => fo (B := []) o hp.1 (by rw [e]; exact fun b hb => by cases hb)
    refine .exc e at0 (fo' o) ?_ (by rw [kg]; exact q) (ih hp.2 kl)
    cases dd with
    | none => exact x
    | some dd => exact ⟨x.1, fo' x.2⟩
  | nil => exact .nil
  | cons _ _ i1 i2 =>
    simp only [allS, allFL, Bool.and_eq_true] at hp
    exact .cons (i1 hp.1 fun b hb => kl b (List.mem_append_left _ hb)) (i2 hp.2 fun b hb => kl b (List.mem_append_right _ hb))
  | knil => exact .knil
  | kcons _ _ i1 i2 =>
    simp only [allS, allFK, Bool.and_eq_true] at hp
    exact .kcons (i1 hp.1 fun b hb => kl b (List.mem_append_left _ hb)) (i2 hp.2 fun b hb => kl b (List.mem_append_right _ hb))
  | tnil => exact .tnil
  | tcons _ _ i1 i2 =>
    simp only [allS, allFT, Bool.and_eq_true] at hp
    exact .tcons (i1 hp.1 fun b hb => kl b (List.mem_append_left _ hb)) (i2 hp.2 fun b hb => kl b (List.mem_append_right _ hb))
  | snil => exact .snil
  | scons _ _ i1 i2 =>
    simp only [allS, allFS, Bool.and_eq_true] at hp
    exact .scons (i1 hp.1 fun b hb => kl b (List.mem_append_left _ hb)) (i2 hp.2 fun b hb => kl b (List.mem_append_right _ hb))
/-- what is handed on: the frozen is shared -/
def pasF : Fl → Fl | .fr => .sh | f => f
abbrev pasD : D → D := mapF pasF
theorem Rp.pas {z z' : Zo} {H : Hp} {g : Sg} {A : List Addr} (h : Rp z H g A) (kK : z'.K = z.K) (kg : z'.gm = z.gm) (kl : ∀ a ∈ A, a ∉ z'.lk) (kS : ∀ a, z.S a → z'.S a) (kR : ∀ a, z.R a → z'.R a) (nl : allS noLk g = true) : Rp z' H (mapS pasF g) A := by
  have fo : ∀ {f : Fl} {a : Addr} {B : List Addr}, FlOk z a f → noLk f = true → (∀ b ∈ FlA f a ++ B, b ∉ z'.lk) → FlOk z' a (pasF f) ∧ FlA (pasF f) a = FlA f a ∧ ∀ u, At H f a u → At H (pasF f) a u := fun {f a B} o n k => by
    cases f with
    | own => exact ⟨k a (by simp [FlA]), rfl, fun _ h => h⟩
    | fr => exact ⟨kS _ o.1, rfl, fun _ h => h⟩
    | sh => exact ⟨kS _ o, rfl, fun _ h => h⟩
    | ro => exact ⟨kR _ o, rfl, fun _ h => h⟩
    | lk => simp [noLk] at n
  induction h with
  | non => exact .non
  | bl b => exact .bl b
  | int i => exact .int i
  | str x => exact .str x
  | ty n => exact .ty n
  | fn e => exact .fn (by rw [kg]; exact e)
  | tup t _ ih => exact .tup (by rw [kK]; exact t) (ih kl nl)
  | lst a o _ ih =>
    simp only [allS, allF, Bool.and_eq_true] at nl
    obtain ⟨k1, k2, k3⟩ := fo o nl.1 kl
    have := Rp.lst (k3 _ a) k1 (ih (fun b hb => kl b (List.mem_append_right _ hb)) nl.2)
    rw [k2] at this; exact this
  | dk a o n _ ih =>
    simp only [allS, allF, Bool.and_eq_true] at nl
    obtain ⟨k1, k2, k3⟩ := fo o nl.1 kl
    have := Rp.dk (k3 _ a) k1 (by rw [mapFK_keys]; exact n) (ih (fun b hb => kl b (List.mem_append_right _ hb)) nl.2)
    rw [k2] at this; exact this
  | dt a o n _ ih =>
    simp only [allS, allF, Bool.and_eq_true] at nl
    obtain ⟨k1, k2, k3⟩ := fo o nl.1 kl
    have := Rp.dt (k3 _ a) k1 (by rw [mapFT_keys]; exact n) (ih (fun b hb => kl b (List.mem_append_right _ hb)) nl.2)
    rw [k2] at this; exact this
  | ins a o e _ ih =>
    simp only [allS, allF, Bool.and_eq_true] at nl
    obtain ⟨k1, k2, k3⟩ := fo o nl.1 kl
    have := Rp.ins (k3 _ a) k1 (by rw [kg]; exact e) (ih (fun b hb => kl b (List.mem_append_right _ hb)) nl.2)
    rw [k2] at this; exact this
  | @kd f a kvs e at0 o =>
    have k := fo (B := []) o (show noLk f = true from nl) (by rw [e]; exact fun b hb => by cases hb)
    refine .kd (fun b => ?_) at0 k.1
    cases f <;> first | rfl | cases e 0
  | @exc f a C dd c fs es B e at0 o x q _ ih =>
    simp only [allS, allF, Bool.and_eq_true] at nl
    have k := fo (B := []) o nl.1 (by rw [e]; exact fun b hb => by cases hb)
    refine .exc (fun b => by cases f <;> first | rfl | cases e 0) at0 k.1 ?_ (by rw [kg]; exact q) (ih kl nl.2)
    cases dd with
    | none => exact x
    | some dd => exact ⟨x.1, (fo (B := []) x.2 nl.1 (by rw [e]; exact fun b hb => by cases hb)).1⟩
  | nil => exact .nil
  | cons _ _ i1 i2 =>
    simp only [allS, allFL, Bool.and_eq_true] at nl
    exact .cons (i1 (fun b hb => kl b (List.mem_append_left _ hb)) nl.1) (i2 (fun b hb => kl b (List.mem_append_right _ hb)) nl.2)
  | knil => exact .knil
  | kcons _ _ i1 i2 =>
    simp only [allS, allFK, Bool.and_eq_true] at nl
    exact .kcons (i1 (fun b hb => kl b (List.mem_append_left _ hb)) nl.1) (i2 (fun b hb => kl b (List.mem_append_right _ hb)) nl.2)
  | tnil => exact .tnil
  | tcons _ _ i1 i2 =>
    simp only [allS, allFT, Bool.and_eq_true] at nl
    exact .tcons (i1 (fun b hb => kl b (List.mem_append_left _ hb)) nl.1) (i2 (fun b hb => kl b (List.mem_append_right _ hb)) nl.2)
  | snil => exact .snil
  | scons _ _ i1 i2 =>
    simp only [allS, allFS, Bool.and_eq_true] at nl
    exact .scons (i1 (fun b hb => kl b (List.mem_append_left _ hb)) nl.1) (i2 (fun b hb => kl b (List.mem_append_right _ hb)) nl.2)
theorem Rp.noOwnA {z : Zo} {H : Hp} {g : Sg} {A : List Addr} (hr : Rp z H g A) (hp : allS noOwn g = true) : A = [] := by
  induction hr with
  | tup _ _ ih => exact ih hp
  | @lst f _ _ _ _ _ _ _ ih => simp only [allS, allF, Bool.and_eq_true] at hp; rw [ih hp.2]; cases f <;> first | rfl | (simp [noOwn] at hp)
  | @dk f _ _ _ _ _ _ _ _ ih => simp only [allS, allF, Bool.and_eq_true] at hp; rw [ih hp.2]; cases f <;> first | rfl | (simp [noOwn] at hp)
  | @dt f _ _ _ _ _ _ _ _ ih => simp only [allS, allF, Bool.and_eq_true] at hp; rw [ih hp.2]; cases f <;> first | rfl | (simp [noOwn] at hp)
  | @ins f _ _ _ _ _ _ _ _ _ _ _ ih => simp only [allS, allF, Bool.and_eq_true] at hp; rw [ih hp.2]; cases f <;> first | rfl | (simp [noOwn] at hp)
  | @exc f _ _ _ _ _ _ _ _ _ _ _ _ _ ih => simp only [allS, allF, Bool.and_eq_true] at hp; exact ih hp.2
  | cons _ _ i1 i2 => simp only [allS, allFL, Bool.and_eq_true] at hp; rw [i1 hp.1, i2 hp.2]; rfl
  | kcons _ _ i1 i2 => simp only [allS, allFK, Bool.and_eq_true] at hp; rw [i1 hp.1, i2 hp.2]; rfl
  | tcons _ _ i1 i2 => simp only [allS, allFT, Bool.and_eq_true] at hp; rw [i1 hp.1, i2 hp.2]; rfl
  | scons _ _ i1 i2 => simp only [allS, allFS, Bool.and_eq_true] at hp; rw [i1 hp.1, i2 hp.2]; rfl
  | _ => rfl
theorem noOwn_noLk : ∀ d : D, allF noOwn d = true → allF noLk d = true := by
  have noLk_of : ∀ f, noOwn f = true → noLk f = true := fun f h => by cases f <;> first | rfl | exact h
  intro d
  induction d using D.rec (motive_2 := fun ds => allFL noOwn ds = true → allFL noLk ds = true) (motive_3 := fun ks => allFK noOwn ks = true → allFK noLk ks = true)
    (motive_4 := fun ks => allFT noOwn ks = true → allFT noLk ks = true) (motive_5 := fun ks => allFS noOwn ks = true → allFS noLk ks = true)
    (motive_6 := fun kd => allF noOwn kd.2 = true → allF noLk kd.2 = true) (motive_7 := fun kd => allF noOwn kd.2 = true → allF noLk kd.2 = true) (motive_8 := fun kd => allF noOwn kd.2 = true → allF noLk kd.2 = true) with
  | _ => first | (intro _; rfl) | (simp_all [allF, allFL, allFK, allFT, allFS])
theorem RpS.mem {z : Zo} {H : Hp} {v : V} {d : D} : ∀ {st : Stk} {B : List Addr}, RpS z H st B → (v, d) ∈ st → ∃ B2, Rp z H (.v v d) B2 := by
  intro st B r
  induction r with
  | nil => intro h; cases h
  | cons r _ ih =>
    intro h
    rcases List.mem_cons.mp h with h | h
    · cases h; exact ⟨_, r⟩
    · exact ih h
section
variable {X : Cx} {p : Par} {W : WX} {lk : List Addr} {L : Lk} {σ : L2.St} {H : Hp} {e : Env} {st : Stk} {ws : List Wk} {a b c : Expr} {pos : Pos} {f g h : M D}
/-- behind a call: what came out, and the caller's state -/
theorem Gd.out {K : Kx} (gd : Gd K p lk L σ H e st ws) : ∃ S, (∀ a, S a → domP H a) ∧ (∀ v d, (v, d) ∈ st → allF noOwn d = true → Rp (zo0 K.K K.mg S (domP H) H) H (.v v (pasD d)) []) ∧ ∀ {H' : Hp} {S' : Addr → Prop} {B : List Addr}, OutV K.K K.mg H S S' H' B →
    (∀ {g : Sg}, allS noRo g = true → Rp (zo0 K.K K.mg S' (fun _ => False) H) H' g B → ∀ {front : Stk}, (∀ z G, Rp z G g B → RpS z G front B) → Gd K p lk L σ H' e (front ++ st) ws) := by
  obtain ⟨S, G, A, B0, g⟩ := gd
  have GH : ∀ a o, G a = some o → domP H a := fun a o h => by
    rw [g.hL]
    cases q : L.lo.lookup a with
    | none => exact ⟨o, lockAll_free g.lkd q h⟩
    | some od => exact ⟨_, lockAll_at g.lkd q h⟩
  refine ⟨S, fun a ha => let ⟨_, o, h⟩ := g.sd a ha; GH a o h, fun v d hm hn => ?_, fun {H' S' B} o => ?_⟩
  · obtain ⟨B2, r⟩ := g.stk.mem hm
    obtain rfl : B2 = [] := r.noOwnA hn
    have r2 : Rp (zo K p S lk) H (.v v d) [] := r.mono (.refl _) (.of fun a u r => by rw [g.hL]; exact lockAll_rd g.lkd r) fun a ha => by cases ha
    exact r2.pas (z' := zo0 K.K K.mg S (domP H) H) rfl rfl (fun a h => by cases h) (fun a h => h) (fun a h => by
      obtain ⟨⟨o, ho⟩, hO⟩ := g.ok.rd a h
      exact GH a o (g.fr a o ho hO)) (noOwn_noLk d hn)
  intro gg hro r front hf
  -- the heap behind the call, unlocked
  let G' : Hp := fun a => if (L.lo.lookup a).isSome = true ∨ (L.hd.lookup a).isSome = true then G a else H' a
  have kG : ∀ a u, G a = some u → G' a = some u := fun a u h => by
    show (if _ then G a else H' a) = some u
    by_cases c : (L.lo.lookup a).isSome = true ∨ (L.hd.lookup a).isSome = true
    · rw [if_pos c]; exact h
    · rw [if_neg c]
      have h1 : L.lo.lookup a = none := by
        cases q : L.lo.lookup a with
        | none => rfl
        | some _ => exact absurd (.inl (by rw [q]; rfl)) c
      exact o.keep a u (by rw [g.hL]; exact lockAll_free g.lkd h1 h)
  have kr : ∀ a u, Rd G a u → Rd G' a u := fun a u h => h.elim (fun z => .inl (kG _ _ z)) fun ⟨ob, z⟩ => .inr ⟨ob, kG _ _ z⟩
  have kd : ∀ a, (∃ u, G a = some u) → ∃ u, G' a = some u := fun a ⟨u, h⟩ => ⟨u, kG a u h⟩
  have keyL : LkOk L G' := ⟨fun a od q => let ⟨u, h1, h2⟩ := g.lkd.lo a od q; ⟨u, kG a u h1, h2⟩, fun a o' q => ⟨by
    show (if _ then G a else H' a) = none
    rw [if_pos (.inr (by rw [q]; rfl))]
    exact (g.lkd.hd a o' q).1, (g.lkd.hd a o' q).2⟩⟩
  have hL' : H' = lockAll L G' := by
    funext a
    cases q : L.hd.lookup a with
    | some o' =>
      rw [lockAll_hd q]
      exact o.keep a o' (by rw [g.hL]; exact lockAll_hd q)
    | none =>
      rw [lockAll_eq q]
      cases q2 : L.lo.lookup a with
      | some od =>
        obtain ⟨u, h1, h2⟩ := g.lkd.lo a od q2
        rw [kG a u h1]
        exact o.keep a _ (by rw [g.hL]; exact lockAll_at g.lkd q2 h1)
      | none =>
        have : G' a = H' a := by
          show (if _ then G a else H' a) = H' a
          rw [if_neg (by rw [q, q2]; simp)]
        rw [this]
        cases H' a <;> rfl
  -- a fresh thing
  have fresh : ∀ a, H a = none → G a = none ∧ (L.lo.lookup a = none ∧ L.hd.lookup a = none) ∧ a ∉ lk ∧ ¬ S a ∧ ¬ p.R0 a ∧ a ∉ A ++ B0 ∧ p.H0 a = none := fun a h => g.free h
  have newG : ∀ a, H a = none → G' a = H' a := fun a h => by
    obtain ⟨_, ⟨h1, h2⟩, _⟩ := fresh a h
    show (if _ then G a else H' a) = H' a
    rw [if_neg (by rw [h1, h2]; simp)]
  have back : ∀ a u, (∀ x y, u ≠ .frz x y) → L.hd.lookup a = none → Rd H' a u → Rd G' a u := fun a u nf hh h => by
    rw [hL'] at h
    cases q2 : L.lo.lookup a with
    | none =>
      have e : lockAll L G' a = G' a := by
        rw [lockAll_eq hh, q2]
        cases G' a <;> rfl
      rw [Rd, e] at h
      exact h
    | some od =>
      obtain ⟨x, hx, mx⟩ := keyL.lo a od q2
      rw [Rd, lockAll_at keyL q2 hx] at h
      rcases h with h | ⟨o', h⟩
      · exact absurd (Option.some.inj h).symm (nf _ _)
      · cases h; exact .inl hx
  have kh : HLe (zo0 K.K K.mg S' (fun _ => False) H) H' G' := by
    refine ⟨fun a u h => ?_, fun a u nf hs h => ?_, fun a u _ hr _ => hr.elim⟩
    · refine back a _ (fun x y z => by cases z) ?_ h
      cases q : L.hd.lookup a with
      | none => rfl
      | some o' =>
        exfalso
        have m := (g.lkd.hd a o' q).2
        rw [hL', Rd, lockAll_hd q] at h
        rcases h with h | ⟨o2, h⟩ <;> (cases h; exact m.elim)
    · refine back a u nf ?_ h
      rcases (o.s1 a hs).1 with z | z
      · obtain ⟨_, u0, hu0⟩ := g.sd a z
        exact g.lkd.nohd hu0
      · exact (fresh a z).2.1.2
  have fin : Rp (zo K p S' lk) G' gg B := by
    refine (r.mono (.refl _) kh fun a ha => newG a (o.nw a ha).1).noR hro rfl rfl (fun _ h => h) (fun a hs h0 => (fresh a h0).2.2.2.2.2.2) fun a ha => (fresh a (o.nw a ha).1).2.2.1
  have zl : ZLe (zo K p S lk) (zo K p S' lk) := ⟨rfl, rfl, o.s0, fun _ h => h, fun _ _ h => h, rfl⟩
  have memd : ∀ a ∈ A ++ B0, domP G a := fun a ha => (List.mem_append.mp ha).elim (fun z => let ⟨u, h, _⟩ := g.env.dom a z; ⟨u, h⟩) fun z => let ⟨u, h, _⟩ := g.stk.dom a z; ⟨u, h⟩
  have kA : ∀ a ∈ A ++ B0, G' a = G a := fun a ha => by
    obtain ⟨u, h⟩ := memd a ha
    rw [kG a u h, h]
  have hperm : (A ++ (B ++ B0)).Perm (B ++ (A ++ B0)) := List.perm_iff_count.mpr fun x => by simp only [List.count_append]; omega
  have mem : ∀ a ∈ A ++ (B ++ B0), a ∈ B ∨ a ∈ A ++ B0 := fun a ha => List.mem_append.mp (hperm.mem_iff.mp ha)
  refine ⟨S', G', A, B ++ B0, ⟨g.ok, hL', keyL, fun a od q => (g.lkz a od q).elim (fun z => .inl (o.s0 _ z)) .inr, fun a ha => kd a (g.lke a ha), g.env.mono zl (.of kr) fun a ha => kA a (List.mem_append_left _ ha),
    (hf _ _ fin).append (g.stk.mono zl (.of kr) fun a ha => kA a (List.mem_append_right _ ha)), fun w hw => (g.wk w hw).mono kr, ?_, fun a ha => ?_, fun a ha => ?_, fun a ha => o.s0 _ (g.s0 a ha), fun a ha => ?_, fun a u h hO => kG a u (g.fr a u h hO), fun a ha => kd a (g.oo a ha), g.pin, fun a ha x u hu => ?_⟩⟩
  · refine hperm.nodup_iff.mpr (List.nodup_append.mpr ⟨o.nd, g.nd, fun x hx y hy z => ?_⟩)
    subst z
    exact (fresh x (o.nw x hx).1).2.2.2.2.2.1 hy
  · rcases mem a ha with h | h
    · exact ⟨(o.nw a h).2, (fresh a (o.nw a h).1).2.2.2.2.1⟩
    · refine ⟨fun z => ?_, (g.dj a h).2⟩
      rcases (o.s1 a z).1 with z | z
      · exact (g.dj a h).1 z
      · obtain ⟨u, hu⟩ := memd a h
        rw [(fresh a z).1] at hu; cases hu
  · rcases mem a ha with h | h
    · exact .inl (fresh a (o.nw a h).1).2.2.2.2.2.2
    · exact g.ow a h
  · obtain ⟨h1, u, hu⟩ := o.s1 a ha
    rcases h1 with z | z
    · obtain ⟨h2, h3⟩ := g.sd a z
      exact ⟨h2, kd a h3⟩
    · exact ⟨.inr (.inl (fresh a z).2.2.2.2.2.2), u, by rw [newG a z]; exact hu⟩
  · cases z : H a with
    | none => exact o.nf a z x u (by rw [← newG a z]; exact hu)
    | some w =>
      have hG : ∃ w, G a = some w := by
        cases q : G a with
        | some w => exact ⟨w, rfl⟩
        | none =>
          exfalso
          have e : G' a = G a := by
            show (if _ then G a else H' a) = G a
            refine if_pos (.inr ?_)
            cases t : L.hd.lookup a with
            | some o' => rfl
            | none => rw [g.hL, lockAll_eq t, q] at z; cases z
          rw [e, q] at hu; cases hu
      obtain ⟨w, hG⟩ := hG
      rw [kG a w hG] at hu
      exact g.nf a ha x u (by rw [hG]; exact hu)
end
end DG

set_option Elab.async false
set_option linter.all false
set_option maxHeartbeats 4000000
/-! DGn: calls of defs; a def's body. -/
namespace DG
open PySem PySem.Spec PyProof.Rows L2
set_option autoImplicit false
/-- what a call does, by what came out -/
def resM (r : FRes) : M D := fun e => match r with
  | .ok d => .ok d e
  | .exc c fs => .exc c fs e
  | .bad => .bad
def callF (n : Nat) (F : List D → FRes) (r : M (List D)) : M D := r.bind fun ds => if ds.length = n then resM (F ds) else .bad
theorem Rp.toS {z : Zo} {H : Hp} {B : List Addr} : ∀ {fv : List (Str × V)} {fs : List (Str × D)} {B : List Addr}, Rp z H (.s fv fs) B → RpS z H ((fv.map (·.2)).zip (fs.map (·.2))) B ∧ fv.map (·.1) = fs.map (·.1)
  | _, _, _, .snil => ⟨.nil, rfl⟩
  | _, _, _, .scons (k := k) r rr => by
    obtain ⟨h1, h2⟩ := Rp.toS (B := []) rr
    exact ⟨.cons r h1, by rw [List.map_cons, List.map_cons, h2]⟩
section
variable {X : Cx} {p : Par} {W : WX} {lk : List Addr} {L : Lk} {σ : L2.St} {H : Hp} {e : Env} {st : Stk} {ws : List Wk} {a b c : Expr} {pos : Pos} {f g h : M D}
theorem Rp.w0 {H : Hp} {v : V} {d : D} {S : Addr → Prop} {K : PySem.W.Frag} {mg : Str → Option Value} (r : Rp (zW K mg H) H (.v v d) []) : Rp (zo0 K mg S (domP H) H) H (.v v d) [] :=
  Rp.mono r ⟨rfl, rfl, fun _ h => h.elim, fun _ h => h, fun _ h => h.elim, rfl⟩ .refl fun _ h => by cases h
/-- the promise of a def at a call -/
theorem Gd.call {vs : List V} {ds : List D} {n : Nat} {F : List D → FRes} {Q : VK} (g1 : Gd X p lk L σ H e st ((vs.zip ds).map (fun q => Wk.v q.1 q.2) ++ ws)) (hl : vs.length = ds.length)
    (q : ((if ds.length = n then resM (F ds) else M.bad) e).run (fun d e' => ∀ v H', Gd X p lk L σ H' e' ((v, d) :: st) ws → Q v H') (XW X p W lk L σ st)) : spF X.K X.mg n F vs H Q (WE W σ) := by
  have g2 := g1.subW (ws' := ws) fun w hw => List.mem_append_right _ hw
  obtain ⟨S, sd, _, out⟩ := g2.out
  by_cases hn : ds.length = n
  · rw [if_pos hn] at q
    refine ⟨ds, S, hl, hn, sd, g2.nfl, fun w hw => (wr_args g1 w hw).w0, ?_⟩
    unfold resM at q
    cases hF : F ds with
    | ok d =>
      rw [hF] at q
      exact fun hr v H' S' B o r => q v H' (out (g := .v v d) o hr r (front := [(v, d)]) fun z G r => by
        have := RpS.cons (p := (v, d)) (st := []) r .nil
        rwa [List.append_nil] at this)
    | exc c fs =>
      rw [hF] at q
      refine fun hr cls dd H' S' B hc o r => q cls dd H' ⟨hc, ?_⟩
      rcases r with ⟨rfl, rfl, rfl⟩ | ⟨d, fv, rfl, h0, h1, r⟩
      · exact .inl ⟨rfl, rfl, (out o (g := .s [] []) rfl .snil (front := []) fun z G _ => .nil).subW fun w hw => (by cases hw)⟩
      · exact .inr ⟨d, fv, rfl, g2.new0 h0, h1, (Rp.toS (B := []) r).2, (out o (g := .s fv fs) hr r (front := (fv.map (·.2)).zip (fs.map (·.2))) fun z G r => (Rp.toS (B := []) r).1).subW fun w hw => (by cases hw)⟩
    | bad => rw [hF] at q; exact False.elim q
  · rw [if_neg hn] at q; exact False.elim q
variable {k n : Nat} {F : List D → FRes} {fa : Addr} {fd : FuncData} {ps : List Str}
theorem pe_callFM {x : Str} {p1 : Pos} {es : List Expr} {r : M (List D)} (Fn : FnOk X.prog X.w X.K X.mg X.base (L2.CX X.prog X.w) k fa fd ps (spF X.K X.mg n F)) (hr : Room k X.A) (hg : Gl X x) (hm : X.mg x = some (.ref fa)) (hk : PySem.W.keepIn X.K (.ref fa) = true) (hb : Binds X.K fd ps [])
    (tk : Takes X W) (ha : PA X (a :: es) (tAW X p W r)) (hdb : (x == ("__debug__" : Str)) = false) (he : starEach (a :: es) X.env = (false, eval a X.env) :: starEach es X.env) (hpl : (backTo pos (starEach es X.env)).any (·.1) = false) :
    PE X (.Call (.Name x p1) (a :: es) [] pos) (tV X p W (callF n F r)) :=
  PEmono (pe_callS Fn hr hg hm hk hb (fun σ => passAt tk σ) ha hdb he hpl) fun σ H Q q => tR_mono (tR_bind q) fun lk L e st ws ds q vs H1 hl g1 => g1.call hl q
theorem pe_callSD0 {CX : CXT} {sp : Sp} {E : L2.St → XK} {x : Str} {p1 : Pos} (F : FnOk X.prog X.w X.K X.mg X.base CX k fa fd ps sp) (hr : Room k X.A) (hg : Gl X x) (hm : X.mg x = some (.ref fa)) (hk : PySem.W.keepIn X.K (.ref fa) = true) (hb : Binds X.K fd ps []) (hx : ∀ σ, PassesAt CX X σ (E σ))
    (hdb : (x == ("__debug__" : Str)) = false) : PE X (.Call (.Name x p1) [] [] pos) (tCallS sp E tNil) := by
  refine ⟨fun pins s σ H Q I h => ?_⟩
  refine wpAny_Call_Name_kw (ld_glob I hg hm ?_ hdb)
  exact PySem.W.callWith_K0 I.kIn hk (run_fnS (us := []) F hr hb (hx σ) I .nil h)
theorem pe_callFM0 {x : Str} {p1 : Pos} (Fn : FnOk X.prog X.w X.K X.mg X.base (L2.CX X.prog X.w) k fa fd ps (spF X.K X.mg n F)) (hr : Room k X.A) (hg : Gl X x) (hm : X.mg x = some (.ref fa)) (hk : PySem.W.keepIn X.K (.ref fa) = true) (hb : Binds X.K fd ps [])
    (tk : Takes X W) (hdb : (x == ("__debug__" : Str)) = false) : PE X (.Call (.Name x p1) [] [] pos) (tV X p W (callF n F (.ret []))) :=
  PEmono (pe_callSD0 Fn hr hg hm hk hb (fun σ => passAt tk σ) hdb) fun σ H Q ⟨lk, L, e, st, ws, g, q⟩ => Gd.call (ds := []) (ws := ws) g rfl q
end
/-! ### a def's body -/
/-- what is known of the context of a body -/
structure BodyCx (P : Program) (w : World) (K : PySem.W.Frag) (mg : Str → Option Value) (base : Heap) (N : List Str) (sc : Scope) (k : Nat) (X : Cx) (W : WX) : Prop where
  prog : X.prog = P
  w : X.w = w
  K : X.K = K
  mg : X.mg = mg
  base : X.base = base
  N : X.N = N
  sc : X.env.scope = sc
  room : Room k X.A
  calm : X.calm = true
  fn : ∀ x, X.fn x = true
  own : PassesOwn (model X.prog X.w) X.A X.env X.xe
  tk : Takes X W
  stk : X.stack = X.env :: X.outer
  frm : X.env.frame = some X.env.locals
theorem env_start {z : Zo} {H : Hp} : ∀ {vs : List V} {ds : List D} (n : Nat), vs.length = ds.length → (∀ w ∈ vs.zip ds, Rp z H (.v w.1 w.2) []) → RpE z H (vs.map some ++ List.replicate n none) (ds.map some ++ List.replicate n none) []
  | [], [], n, _, _ => by
    induction n with
    | zero => exact .nil
    | succ n ih => exact .skip ih
  | v :: vs, d :: ds, n, hl, h => RpE.cons (A := []) (B := []) (h (v, d) (by simp)) (env_start n (by simpa using hl) fun w hw => h w (by rw [List.zip_cons_cons]; exact List.mem_cons_of_mem _ hw))
  | [], _ :: _, _, h, _ => by simp at h
  | _ :: _, [], _, h, _ => by simp at h
theorem allF_imm_noRo : (∀ d : D, imm d = true → allF noRo d = true) := by
  intro d
  induction d using D.rec (motive_2 := fun ds => allFL (fun _ => false) ds = true → allFL noRo ds = true) (motive_3 := fun ks => allFK (fun _ => false) ks = true → allFK noRo ks = true)
    (motive_4 := fun ks => allFT (fun _ => false) ks = true → allFT noRo ks = true) (motive_5 := fun ks => allFS (fun _ => false) ks = true → allFS noRo ks = true)
    (motive_6 := fun kd => imm kd.2 = true → allF noRo kd.2 = true) (motive_7 := fun kd => imm kd.2 = true → allF noRo kd.2 = true) (motive_8 := fun kd => imm kd.2 = true → allF noRo kd.2 = true) with
  | _ => first | (intro _; rfl) | (simp_all [imm, allF, allFL, allFK, allFT, allFS])
theorem RpS.toK {z : Zo} {H : Hp} : ∀ {fv : List (Str × V)} {fs : List (Str × D)} {B : List Addr}, fv.map (·.1) = fs.map (·.1) → RpS z H ((fv.map (·.2)).zip (fs.map (·.2))) B → Rp z H (.s fv fs) B
  | [], [], _, _, h => by cases h; exact .snil
  | (k, v) :: fv, (k', d) :: fs, B, e, h => by
    simp only [List.map_cons, List.cons.injEq] at e
    obtain ⟨rfl, e⟩ := e
    rw [List.map_cons, List.map_cons, List.zip_cons_cons] at h
    cases h with
    | cons r rr => exact .scons r (RpS.toK e rr)
  | [], _ :: _, _, e, _ => by simp at e
  | _ :: _, [], _, e, _ => by simp at e
section
variable {K : Kx} {H : Hp} {S0 : Addr → Prop} {nl : List Nat} {σ' : L2.St} {H' : Hp} {e' : Env}
abbrev par0 (H : Hp) (S0 : Addr → Prop) (nl : List Nat) : Par := ⟨H, S0, domP H, [], none, nl⟩
/-- at a def's end: what is handed out -/
theorem GdB.fin {st : Stk} {S : Addr → Prop} {G : Hp} {A B : List Addr} (g : GdB K (par0 H S0 nl) [] ⟨[], []⟩ σ' H' e' st [] S G A B) :
    OutV K.K K.mg H S0 S H' B ∧ ∀ {s : Sg}, allS noRo s = true → (∀ z G, RpS z G st B → Rp z G s B) → Rp (zo0 K.K K.mg S (fun _ => False) H) H' s B := by
  have hG : H' = G := by rw [g.hL, lockAll_nil]
  subst hG
  refine ⟨⟨fun a o h => g.fr a o h (by simp), g.s0, fun a ha => ⟨(g.sd a ha).1.imp_right fun z => z.elim id fun z => (by cases z), (g.sd a ha).2⟩, (List.nodup_append.mp g.nd).2.1, fun a ha => ⟨?_, (g.dj a (List.mem_append_right _ ha)).1⟩, fun a ha => g.nf a (.inl ha)⟩, fun hr hs => ?_⟩
  · rcases g.ow a (List.mem_append_right _ ha) with z | z
    · exact z
    · cases z
  · exact (hs _ _ g.stk).noR hr rfl rfl (fun _ h => h) (fun _ _ h => h) fun _ _ h => by cases h
theorem Gd.fin {v : V} {d d' : D} (g : Gd K (par0 H S0 nl) [] ⟨[], []⟩ σ' H' e' [(v, d)] []) (ho : outD d = some d') : allF noRo d' = true ∧ ∃ S' B, OutV K.K K.mg H S0 S' H' B ∧ Rp (zo0 K.K K.mg S' (fun _ => False) H) H' (.v v d') B := by
  obtain ⟨S, G, A, B, g⟩ := g
  obtain ⟨o, k⟩ := g.fin
  have plain : allF noRo d = true → allF noRo d = true ∧ ∃ S' B, OutV K.K K.mg H S0 S' H' B ∧ Rp (zo0 K.K K.mg S' (fun _ => False) H) H' (.v v d) B := fun h => by
    refine ⟨h, S, B, o, k h fun z G r => ?_⟩
    cases r with
    | cons r rr => cases rr; rw [List.append_nil]; exact r
  have hG : H' = G := by rw [g.hL, lockAll_nil]
  subst hG
  unfold outD at ho
  split at ho
  · rename_i ds
    split at ho
    · rename_i hi
      cases ho
      refine ⟨?_, ?_⟩
      · have := allF_imm_noRo (.tup ds) (by rw [imm, allF]; exact hi)
        rw [allF] at this
        rw [allF, this]; rfl
      · cases hs : g.stk with
        | @cons _ _ A1 B1 r rr =>
          cases rr
          obtain ⟨a, xs, C, rfl, at0, fo, rl, rfl⟩ := Rp.lst_inv (show Rp _ _ (.v v (.lst .fr ds)) A1 from r)
          have hH : H' a = some (.lst xs) := by
            rcases (at0 : Rd H' a (.lst xs)) with h | ⟨x, h⟩
            · exact h
            · exact absurd h (g.nf a (.inl fo.2) _ _)
          refine ⟨fun b => S b ∧ b ≠ a, [a], ⟨o.keep, fun b hb => ⟨o.s0 b hb, ?_⟩, fun b hb => o.s1 b hb.1, by simp, fun b hb => ?_, o.nf⟩, ?_⟩
          · rintro rfl
            obtain ⟨u, hu⟩ := (g.ok.rd b (g.ok.sr b hb)).1
            have fo2 : H b = none := fo.2
            have hu : H b = some u := hu
            rw [fo2] at hu; cases hu
          · rw [List.mem_singleton.mp hb]
            exact ⟨fo.2, fun z => z.2 rfl⟩
          · have q := rl.ofImm (z' := zo0 K.K K.mg (fun b => S b ∧ b ≠ a) (fun _ => False) H) rfl rfl hi
            have q2 := q.2
            subst q2
            exact Rp.lst (f := .own) (A := []) hH (fun z => by cases z) q.1
    · split at ho
      · cases ho; exact plain ‹_›
      · cases ho
  · split at ho
    · cases ho; exact plain ‹_›
    · cases ho
end
theorem fn_body {P : Program} {w : World} {K : PySem.W.Frag} {mg : Str → Option Value} {base : Heap} {k n : Nat} {nl : List Nat} {fa : Addr} {x qual : Str} {st : Stmt} {fd : FuncData} {N ps : List Str} {fb : M Fw} (Fn : Fun K x qual st fa fd) (S : FnScope N ps (defScope st)) (hn : ps.length = n)
    (hbody : ∀ (X : Cx) (p : Par) (W : WX), BodyCx P w K mg base N (defScope st) k X W → p.O = [] → p.io = none → p.nl = nl → PSs X (defBody st) (tS X p W fb)) :
    FnOk P w K mg base (L2.CX P w) (k + 1) fa fd ps (spF K mg n (fnRun N.length fb)) := by
  obtain ⟨oc, od, kV, doc, pm, an, cdv, ct, osl, rfl, lk, hcd⟩ := Fn.ex
  refine fn_of lk hcd S (fun vs H Q E ⟨ds, S0, h1, h2, _⟩ => by rw [h1, h2, hn]) fun A outer s H vs Q E hr ⟨ds, S0, hl, hn2, hS, hft, hrp, q⟩ => ?_
  let X : Cx := cxOf (L2.CX P w) P w K mg base N qual (defScope st) fa cdv A outer s H E
  let p : Par := par0 H S0 nl
  let W : WX := fun cls d _ H => E cls d H
  have B : BodyCx P w K mg base N (defScope st) k X W := ⟨rfl, rfl, rfl, rfl, rfl, rfl, rfl, hr, rfl, fun _ => rfl, passes_of rfl, takes_of rfl rfl rfl rfl, rfl, rfl⟩
  refine ⟨tS X p W fb, hbody X p W B rfl rfl rfl, ?_⟩
  unfold fnRun at q
  by_cases hlen : ds.length ≤ N.length
  case neg => rw [if_neg hlen] at q; exact False.elim q
  rw [if_pos hlen] at q
  have g0 : Gd X p [] ⟨[], []⟩ (start N vs) H (ds.map some ++ List.replicate (N.length - ds.length) none) [] [] := by
    refine ⟨S0, H, [], [], ⟨⟨fun a h => hS a h, fun a h => ⟨h, by simp [p]⟩, fun a h => (by cases h), hft⟩, (lockAll_nil H).symm, ⟨fun a od q => (by cases q), fun a o q => (by cases q)⟩, fun a od q => (by cases q), fun a h => (by cases h), ?_, .nil, fun w hw => (by cases hw), List.nodup_nil, fun a h => (by cases h), fun a h => (by cases h), fun a h => h, fun a h => ⟨.inl h, hS a h⟩, fun a o h _ => h, fun a h => (by cases h), fun v h => (by cases h), fun a h x u z => ?_⟩⟩
    · have := env_start (N.length - ds.length) hl hrp
      show RpE _ H (vs.map some ++ List.replicate (N.length - vs.length) none) _ []
      rw [hl]
      exact this
    · have h : H a = none := h.elim id fun h => by cases h
      rw [h] at z; cases z
  refine ⟨[], ⟨[], []⟩, _, [], g0, ?_⟩
  generalize ds.map some ++ List.replicate (N.length - ds.length) none = e0 at q ⊢
  cases hb : fb e0 with
  | bad => rw [hb] at q; exact q
  | exc c fs e' =>
    rw [hb] at q
    unfold fnRes at q
    dsimp only at q
    by_cases hf : allFS noRo fs = true
    case neg => rw [if_neg hf] at q; exact False.elim q
    rw [if_pos hf] at q
    refine fun σ cls d H' ⟨hc, h⟩ => ?_
    rcases h with ⟨rfl, rfl, h⟩ | ⟨dd, fv, rfl, h0, h1, h2, h⟩
    · obtain ⟨S', G, A', B', g⟩ := h
      cases hs : g.stk
      have z := g.fin
      exact q hf cls none H' S' [] hc z.1 (.inl ⟨rfl, rfl, rfl⟩)
    · rw [List.append_nil] at h
      obtain ⟨S', G, A', B', g⟩ := h
      have z := g.fin
      exact q hf cls _ H' S' B' hc z.1 (.inr ⟨dd, fv, rfl, h0, h1, z.2 (s := .s fv fs) hf fun z G r => r.toK h2⟩)
  | ok fl e' =>
    rw [hb] at q
    cases fl with
    | ret d =>
      unfold fnRes at q
      dsimp only at q
      cases ho : outD d with
      | none => rw [ho] at q; exact False.elim q
      | some d' =>
        rw [ho] at q
        refine fun v σ' H' g => ?_
        obtain ⟨h1, S', B', h2, h3⟩ := g.fin ho
        exact q h1 v H' S' B' h2 h3
    | next =>
      refine fun σ' H' g => ?_
      obtain ⟨h1, S', B', h2, h3⟩ := Gd.fin (d' := .non) (g.push (v := .non) (d := .non) fun z G _ _ => .non) rfl
      exact q h1 .non H' S' B' h2 h3
    | brk => exact False.elim q
    | cont => exact False.elim q
end DG

set_option Elab.async false
set_option linter.all false
set_option maxHeartbeats 4000000
/-! DGo: ==, !=, in, not in. -/
namespace DG
open PySem PySem.Spec PyProof.Rows L2
set_option autoImplicit false
/-! ### plain data -/
mutual
def toPy : D → Option PyData
  | .non => some .none
  | .bl b => some (.bool b)
  | .int i => some (.int i)
  | .str x => some (.str x)
  | .tup ds => (toPyL ds).map .tuple
  | .lst _ ds => (toPyL ds).map .list
  | _ => none
def toPyL : List D → Option (List PyData)
  | [] => some []
  | d :: r => match toPy d, toPyL r with
    | some p, some ps => some (p :: ps)
    | _, _ => none
end
def shp (d : D) : Option PyData := (toPy d).bind fun p => if SeqAt.shaped p = true then some p else none
def PyS (K : PySem.W.Frag) (H : Hp) : Sg → Prop
  | .v v d => ∀ p, toPy d = some p → Dp K H v p
  | .l xs ds => ∀ ps, toPyL ds = some ps → DpAll K H xs ps
  | _ => True
theorem Rp.py {z : Zo} {H : Hp} {g : Sg} {A : List Addr} (h : Rp z H g A) : PyS z.K H g := by
  induction h with
  | non => intro p e; cases e; exact .non
  | bl b => intro p e; cases e; exact .bl b
  | int i => intro p e; cases e; exact .int i
  | str x => intro p e; cases e; exact .str x
  | ty n => intro p e; cases e
  | fn e => intro p e; cases e
  | tup t _ ih =>
    intro p e
    simp only [toPy, Option.map_eq_some_iff] at e
    obtain ⟨ps, e, rfl⟩ := e
    exact .tup t.seq (ih ps e)
  | lst at0 o _ ih =>
    intro p e
    simp only [toPy, Option.map_eq_some_iff] at e
    obtain ⟨ps, e, rfl⟩ := e
    exact .lst (.inl at0.rd) (ih ps e)
  | dk => intro p e; cases e
  | dt => intro p e; cases e
  | ins => intro p e; cases e
  | exc => intro p e; cases e
  | kd => intro p e; cases e
  | nil => intro p e; cases e; exact .nil
  | @cons v d vs ds A B _ _ i1 i2 =>
    intro p e
    cases q1 : toPy d with
    | none => simp only [toPyL, q1] at e; cases e
    | some p1 =>
      cases q2 : toPyL ds with
      | none => simp only [toPyL, q1, q2] at e; cases e
      | some p2 =>
        simp only [toPyL, q1, q2, Option.some.injEq] at e
        subst e
        exact .cons (i1 p1 q1) (i2 p2 q2)
  | _ => trivial
section
variable {X : Cx} {p : Par} {W : WX} {lk : List Addr} {L : Lk} {σ : L2.St} {H : Hp} {e : Env} {st : Stk} {ws : List Wk} {a b c : Expr} {pos : Pos} {f g h : M D}
theorem Wr_py {v : V} {d : D} {q : PyData} (w : Wr X H v d) (h : shp d = some q) : Dp X.K H v q ∧ SeqAt.shaped q = true := by
  unfold shp at h
  cases e : toPy d with
  | none => rw [e] at h; cases h
  | some r =>
    rw [e] at h
    dsimp only [Option.bind] at h
    by_cases hz : SeqAt.shaped r = true
    · rw [if_pos hz] at h
      cases h
      exact ⟨Rp.py w _ e, hz⟩
    · rw [if_neg hz] at h; cases h
/-- scalars as the kit's scal has them -/
def scalD : D → D → Option Bool
  | .non, .non => some true
  | .non, .int _ => some false | .int _, .non => some false
  | .non, .bl _ => some false | .bl _, .non => some false
  | .non, .str _ => some false | .str _, .non => some false
  | .int i, .int j => some (decide (i = j))
  | .bl i, .bl j => some (decide (i = j))
  | .str i, .str j => some (decide (i = j))
  | .int _, .str _ => some false | .str _, .int _ => some false
  | .bl _, .str _ => some false | .str _, .bl _ => some false
  | _, _ => none
theorem scalD_of {x y : V} {dx dy : D} {b : Bool} (w1 : Wr X H x dx) (w2 : Wr X H y dy) (h : scalD dx dy = some b) : scal x y = true ∧ decide (x = y) = b := by
  cases dx <;> cases dy <;> simp only [scalD, reduceCtorEq, Option.some.injEq] at h <;> subst h <;> cases w1 <;> cases w2 <;> simp [scal]
def eqB (dx dy : D) : Option Bool := match scalD dx dy with
  | some b => some b
  | none => match shp dx, shp dy with
    | some p, some q => some (PyData.eqv p q)
    | _, _ => none
def eqD (dx dy : D) : Option Nw := (eqB dx dy).map fun b => .sc (.bl b)
def neD (dx dy : D) : Option Nw := (eqB dx dy).map fun b => .sc (.bl !b)
theorem eqB_of {x y : V} {dx dy : D} {b : Bool} (w1 : Wr X H x dx) (w2 : Wr X H y dy) (h : eqB dx dy = some b) : (scal x y = true ∧ decide (x = y) = b) ∨ ∃ p q, Dp X.K H x p ∧ Dp X.K H y q ∧ SeqAt.shaped p = true ∧ SeqAt.shaped q = true ∧ PyData.eqv p q = b := by
  unfold eqB at h
  cases q : scalD dx dy with
  | some k =>
    rw [q] at h
    cases h
    exact .inl (scalD_of w1 w2 q)
  | none =>
    rw [q] at h
    dsimp only at h
    cases q1 : shp dx with
    | none => rw [q1] at h; cases h
    | some p1 =>
      cases q2 : shp dy with
      | none => rw [q1, q2] at h; cases h
      | some p2 =>
        rw [q1, q2] at h
        cases h
        exact .inr ⟨p1, p2, (Wr_py w1 q1).1, (Wr_py w2 q2).1, (Wr_py w1 q1).2, (Wr_py w2 q2).2, rfl⟩
theorem on_eq (hu : X.A.units + 64 < cLine) : OpN X (compareOp .Eq) eqD := .of (op_eq.or (op_eqD hu)) fun x y H Q dx dy n w1 w2 ho q => by
  unfold eqD at ho
  cases hb : eqB dx dy with
  | none => rw [hb] at ho; cases ho
  | some b =>
    rw [hb] at ho
    cases ho
    obtain ⟨v, hv, q⟩ := q
    cases hv
    rcases eqB_of w1 w2 hb with ⟨h1, h2⟩ | ⟨p1, p2, h1, h2, h3, h4, h5⟩
    · exact .inl ⟨h1, by rw [h2]; exact q⟩
    · exact .inr ⟨p1, p2, h1, h2, h3, h4, by rw [h5]; exact q⟩
theorem on_ne (hu : X.A.units + 64 < cLine) : OpN X (compareOp .NotEq) neD := .of (op_ne.or (op_neD hu)) fun x y H Q dx dy n w1 w2 ho q => by
  unfold neD at ho
  cases hb : eqB dx dy with
  | none => rw [hb] at ho; cases ho
  | some b =>
    rw [hb] at ho
    cases ho
    obtain ⟨v, hv, q⟩ := q
    cases hv
    rcases eqB_of w1 w2 hb with ⟨h1, h2⟩ | ⟨p1, p2, h1, h2, h3, h4, h5⟩
    · exact .inl ⟨h1, by rw [h2]; exact q⟩
    · exact .inr ⟨p1, p2, h1, h2, h3, h4, by rw [h5]; exact q⟩
/-! ### in -/
def flatD : D → Bool
  | .non => true | .bl _ => true | .int _ => true | .str _ => true
  | _ => false
/-- == of flat things -/
def eqF : D → D → Bool
  | .non, .non => true
  | .bl a, .bl b => a == b
  | .bl a, .int b => (if a then 1 else 0) == b
  | .int a, .bl b => a == (if b then 1 else 0)
  | .int a, .int b => a == b
  | .str a, .str b => a == b
  | _, _ => false
theorem eqF_of {x y : V} {dx dy : D} (w1 : Wr X H x dx) (w2 : Wr X H y dy) (h1 : flatD dx = true) (h2 : flatD dy = true) : eqV x y = eqF dx dy := by
  cases dx <;> simp only [flatD, Bool.false_eq_true] at h1 <;> cases dy <;> simp only [flatD, Bool.false_eq_true] at h2 <;> cases w1 <;> cases w2 <;> rfl
theorem flatV_of {x : V} {dx : D} (w1 : Wr X H x dx) (h1 : flatD dx = true) : flatV x = true := by
  cases dx <;> simp only [flatD, Bool.false_eq_true] at h1 <;> cases w1 <;> rfl
theorem inV_of {x : V} {dx : D} (w1 : Wr X H x dx) (h1 : flatD dx = true) : ∀ {xs : List V} {ds : List D}, Rp (zW X.K X.mg H) H (.l xs ds) [] → ds.all flatD = true → xs.all flatV = true ∧ inV x xs = ds.any fun d => eqF d dx
  | [], [], _, _ => ⟨rfl, rfl⟩
  | y :: ys, d :: ds, r, h => by
    simp only [List.all_cons, Bool.and_eq_true] at h
    obtain ⟨r1, r2⟩ := r.cons_nil
    obtain ⟨k1, k2⟩ := inV_of w1 h1 r2 h.2
    refine ⟨by rw [List.all_cons, flatV_of r1 h.1, k1]; rfl, ?_⟩
    unfold inV at k2 ⊢
    rw [List.any_cons, List.any_cons, k2, eqF_of r1 w1 h.1 h1]
  | [], _ :: _, r, _ => by have := r.lenL; simp at this
  | _ :: _, [], r, _ => by have := r.lenL; simp at this
def keyD : D → Option Key
  | .int i => some (.inl i)
  | .str x => some (.inr x)
  | _ => none
def keysD : List D → Option (List Key)
  | [] => some []
  | d :: r => match keyD d, keysD r with
    | some k, some ks => some (k :: ks)
    | _, _ => none
theorem keyD_of {x : V} {d : D} {k : Key} {z : Zo} {A : List Addr} (w : Rp z H (.v x d) A) (h : keyD d = some k) : x = kV k := by
  cases d <;> simp only [keyD, reduceCtorEq, Option.some.injEq] at h <;> subst h <;> cases w <;> rfl
theorem keysD_of {z : Zo} {A : List Addr} : ∀ {xs : List V} {ds : List D} {ks : List Key} {A : List Addr}, Rp z H (.l xs ds) A → keysD ds = some ks → xs = ks.map kV
  | [], [], ks, _, _, h => by cases h; rfl
  | y :: ys, d :: ds, ks, _, r, h => by
    obtain ⟨A1, A2, r1, r2, _⟩ := r.cons_inv
    cases q1 : keyD d with
    | none => simp only [keysD, q1] at h; cases h
    | some k =>
      cases q2 : keysD ds with
      | none => simp only [keysD, q1, q2] at h; cases h
      | some ks' =>
        simp only [keysD, q1, q2, Option.some.injEq] at h
        subst h
        rw [List.map_cons, ← keyD_of r1 q1, ← keysD_of (z := z) (A := []) r2 q2]
  | [], _ :: _, _, _, r, _ => by have := r.lenL; simp at this
  | _ :: _, [], _, _, r, _ => by have := r.lenL; simp at this
theorem getA_isSome {κ α β : Type} [DecidableEq κ] {l : List (κ × α)} {m : List (κ × β)} (h : l.map (·.1) = m.map (·.1)) (k : κ) : (getA l k).isSome = (getA m k).isSome := by
  have := getA_none l k
  have := getA_none m k
  rw [← h] at this
  cases q : getA l k <;> cases q2 : getA m k <;> simp_all
/-- x in y -/
def inB : D → D → Option Bool
  | .str x, .str y => some (subS x y)
  | d, .lst f ds => if flatD d = true ∧ ds.all flatD = true then some (ds.any fun z => eqF z d) else match shp d, shp (.lst f ds) with
    | some p, some (.list ps) => some (ps.any fun z => PyData.eqv z p)
    | _, _ => none
  | d, .tup ds => if flatD d = true ∧ ds.all flatD = true then some (ds.any fun z => eqF z d) else none
  | d, .dk _ ks => (keyD d).map fun k => (getA ks k).isSome
  | .tup ds, .dt _ ks => (keysD ds).map fun k => (getA ks k).isSome
  | _, _ => none
def inD (x y : D) : Option Nw := (inB x y).map fun b => .sc (.bl b)
def ninD (x y : D) : Option Nw := (inB x y).map fun b => .sc (.bl !b)
/-- the readings of in, by its answer -/
def rInAll (K : PySem.W.Frag) (x y : V) (H : Hp) (r : Bool) : Prop :=
  (∃ i j, x = .str i ∧ y = .str j ∧ r = subS i j) ∨ (∃ q xs, y = .ref q ∧ (SqL K H q xs ∨ SqT K H q xs) ∧ flatV x = true ∧ xs.all flatV = true ∧ r = inV x xs) ∨
    (∃ d ds, Dp K H x d ∧ Dp K H y (.list ds) ∧ SeqAt.shaped d = true ∧ SeqAt.shaped (.list ds) = true ∧ r = ds.any fun z => PyData.eqv z d) ∨ ∃ a o, y = .ref a ∧ DGet H a x o ∧ r = o.isSome
theorem inB_of {x y : V} {dx dy : D} {r : Bool} (nf : ∀ a o xs, H a ≠ some (.frz o (.tup xs))) (w1 : Wr X H x dx) (w2 : Wr X H y dy) (h : inB dx dy = some r) : rInAll X.K x y H r := by
  unfold inB at h
  split at h
  · cases h
    cases Wr_str w1
    cases Wr_str w2
    exact .inl ⟨_, _, rfl, rfl, rfl⟩
  · rename_i d f ds
    split at h
    · rename_i hz
      cases h
      obtain ⟨a, xs, rfl, rd, rl⟩ := Wr_lst w2
      obtain ⟨k1, k2⟩ := inV_of w1 hz.1 rl hz.2
      exact .inr (.inl ⟨a, xs, rfl, .inl (.inl rd), flatV_of w1 hz.1, k1, k2.symm⟩)
    · split at h
      · rename_i p ps h1 h2
        cases h
        exact .inr (.inr (.inl ⟨p, ps, (Wr_py w1 h1).1, (Wr_py w2 h2).1, (Wr_py w1 h1).2, (Wr_py w2 h2).2, rfl⟩))
      · cases h
  · rename_i d ds
    split at h
    · rename_i hz
      cases h
      obtain ⟨a, xs, rfl, rd, rl⟩ := Wr_tup w2
      obtain ⟨k1, k2⟩ := inV_of w1 hz.1 rl hz.2
      exact .inr (.inl ⟨a, xs, rfl, .inr rd, flatV_of w1 hz.1, k1, k2.symm⟩)
    · cases h
  · rename_i f ks
    cases hk : keyD dx with
    | none => rw [hk] at h; cases h
    | some k =>
      rw [hk] at h
      cases h
      obtain ⟨a, xs, C, rfl, at0, o, n, rk, q⟩ := Rp.dk_inv w2
      refine .inr (.inr (.inr ⟨a, valV xs k, rfl, .inl ⟨xs, k, at0.rd, keyD_of w1 hk, rfl⟩, ?_⟩))
      rw [valV_getA]
      exact (getA_isSome rk.keysK k).symm
  · rename_i ds f ks
    cases hk : keysD ds with
    | none => rw [hk] at h; cases h
    | some k =>
      rw [hk] at h
      cases h
      obtain ⟨a, xs, C, rfl, at0, o, n, rk, q⟩ := Rp.dt_inv w2
      obtain ⟨b, ys, rfl, t, rl⟩ := Rp.tup_inv w1
      have t : Rd H b (.tup ys) := t
      have hb : H b = some (.tup ys) := t.elim id fun ⟨o, z⟩ => absurd z (nf b o ys)
      obtain rfl := keysD_of (z := zW X.K X.mg H) (A := []) rl hk
      refine .inr (.inr (.inr ⟨a, valV xs k, rfl, .inr ⟨xs, k, b, at0.rd, rfl, hb, rfl⟩, ?_⟩))
      rw [valV_getA]
      exact (getA_isSome rk.keysT k).symm
  · cases h
theorem op_in_dict (hu : X.A.units + 1 < cLine) : OpR X (compareOp .In) (fun x y H Q => ∃ a o, y = .ref a ∧ DGet H a x o ∧ Q (.bl o.isSome) H) := by
  intro pins s σ H x y v u Q I rx ry h
  obtain ⟨a, o, rfl, g, q⟩ := h
  obtain rfl : u = Value.ref a := ry
  exact d_in hu I g rx fun s' I' => ⟨.bl _, H, I', rfl, q⟩
theorem op_nin_dict (hu : X.A.units + 1 < cLine) : OpR X (compareOp .NotIn) (fun x y H Q => ∃ a o, y = .ref a ∧ DGet H a x o ∧ Q (.bl !o.isSome) H) := by
  intro pins s σ H x y v u Q I rx ry h
  obtain ⟨a, o, rfl, g, q⟩ := h
  obtain rfl : u = Value.ref a := ry
  exact d_notIn hu I g rx fun s' I' => ⟨.bl _, H, I', rfl, q⟩
theorem op_in_all (hu : X.A.units + 65 < cLine) : OpR X (compareOp .In) (fun x y H Q => ∃ r, rInAll X.K x y H r ∧ Q (.bl r) H) := by
  intro pins s σ H x y v u Q I rx ry ⟨r, h, q⟩
  rcases h with ⟨i, j, e1, e2, rfl⟩ | ⟨p, xs, h1, h2, h3, h4, rfl⟩ | ⟨d, ds, h1, h2, h3, h4, rfl⟩ | ⟨a, o, h1, h2, rfl⟩
  · exact op_in_str pins s σ H x y v u Q I rx ry ⟨i, j, e1, e2, q⟩
  · exact op_in_seq pins s σ H x y v u Q I rx ry ⟨p, xs, h1, h2, h3, h4, q⟩
  · exact op_inD hu pins s σ H x y v u Q I rx ry ⟨d, ds, h1, h2, h3, h4, q⟩
  · exact op_in_dict (by omega) pins s σ H x y v u Q I rx ry ⟨a, o, h1, h2, q⟩
theorem op_nin_all (hu : X.A.units + 65 < cLine) : OpR X (compareOp .NotIn) (fun x y H Q => ∃ r, rInAll X.K x y H r ∧ Q (.bl !r) H) := by
  intro pins s σ H x y v u Q I rx ry ⟨r, h, q⟩
  rcases h with ⟨i, j, e1, e2, rfl⟩ | ⟨p, xs, h1, h2, h3, h4, rfl⟩ | ⟨d, ds, h1, h2, h3, h4, rfl⟩ | ⟨a, o, h1, h2, rfl⟩
  · exact op_notin_str pins s σ H x y v u Q I rx ry ⟨i, j, e1, e2, q⟩
  · exact op_notIn_seq pins s σ H x y v u Q I rx ry ⟨p, xs, h1, h2, h3, h4, q⟩
  · exact op_notInD hu pins s σ H x y v u Q I rx ry ⟨d, ds, h1, h2, h3, h4, q⟩
  · exact op_nin_dict (by omega) pins s σ H x y v u Q I rx ry ⟨a, o, h1, h2, q⟩
theorem on_in (hu : X.A.units + 65 < cLine) : OpN X (compareOp .In) inD := .of' (op_in_all hu) fun x y H Q dx dy n nf w1 w2 ho q => by
  unfold inD at ho
  cases hb : inB dx dy with
  | none => rw [hb] at ho; cases ho
  | some b =>
    rw [hb] at ho
    cases ho
    obtain ⟨v, hv, q⟩ := q
    cases hv
    exact ⟨b, inB_of nf w1 w2 hb, q⟩
theorem on_nin (hu : X.A.units + 65 < cLine) : OpN X (compareOp .NotIn) ninD := .of' (op_nin_all hu) fun x y H Q dx dy n nf w1 w2 ho q => by
  unfold ninD at ho
  cases hb : inB dx dy with
  | none => rw [hb] at ho; cases ho
  | some b =>
    rw [hb] at ho
    cases ho
    obtain ⟨v, hv, q⟩ := q
    cases hv
    exact ⟨b, inB_of nf w1 w2 hb, q⟩
end
end DG

set_option Elab.async false
set_option linter.all false
set_option maxHeartbeats 4000000
/-! DGp: and, or, not as values; methods of texts; displays of dicts; built-in functions. -/
namespace DG
open PySem PySem.Spec PyProof.Rows L2
set_option autoImplicit false
section
variable {X : Cx} {p : Par} {W : WX} {lk : List Addr} {L : Lk} {σ : L2.St} {H : Hp} {e : Env} {st : Stk} {ws : List Wk} {a b c : Expr} {pos : Pos} {f g h : M D}
theorem tR_at {α : Type} {f : M α} {post : List Addr → Lk → Env → Stk → List Wk → α → Prop} (gd : Gd X p lk L σ H e st ws) (q : (f e).run (fun a e' => post lk L e' st ws a) (XW X p W lk L σ st)) : tR X p W f σ H post := ⟨lk, L, e, st, ws, gd, q⟩
def andV (f g : M D) : M D := f.bind fun d => match d with
  | .bl true => g
  | .bl false => .ret (.bl false)
  | _ => .bad
def orV (f g : M D) : M D := f.bind fun d => match d with
  | .bl false => g
  | .bl true => .ret (.bl true)
  | _ => .bad
theorem pe_andV {rest : List Expr} (ha : PE X a (tW X p W f)) (hb : PE X (.BoolOp .And (b :: rest) pos) (tV X p W g)) : PE X (.BoolOp .And (a :: b :: rest) pos) (tV X p W (andV f g)) :=
  PEmono (pe_and ha hb) fun σ H Q q => tR_mono (tR_bind q) fun lk L e st ws d q v H' g' => by
    cases d with
    | bl k =>
      cases Wr_bl (g'.wr List.mem_cons_self)
      refine ⟨k, rfl, ?_⟩
      cases k with
      | true => rw [if_pos rfl]; exact tR_at g'.dropW q
      | false => rw [if_neg Bool.false_ne_true]; exact q _ _ (g'.dropW.push fun z G _ _ => .bl false)
    | _ => exact False.elim q
theorem pe_orV {rest : List Expr} (ha : PE X a (tW X p W f)) (hb : PE X (.BoolOp .Or (b :: rest) pos) (tV X p W g)) : PE X (.BoolOp .Or (a :: b :: rest) pos) (tV X p W (orV f g)) :=
  PEmono (pe_or ha hb) fun σ H Q q => tR_mono (tR_bind q) fun lk L e st ws d q v H' g' => by
    cases d with
    | bl k =>
      cases Wr_bl (g'.wr List.mem_cons_self)
      refine ⟨k, rfl, ?_⟩
      cases k with
      | false => rw [if_neg Bool.false_ne_true]; exact tR_at g'.dropW q
      | true => rw [if_pos rfl]; exact q _ _ (g'.dropW.push fun z G _ _ => .bl true)
    | _ => exact False.elim q
def notV (f : M D) : M D := f.bind fun d => match d with
  | .bl k => .ret (.bl (!k))
  | _ => .bad
theorem pe_notV (ha : PE X a (tW X p W f)) : PE X (.UnaryOp .Not a pos) (tV X p W (notV f)) :=
  PEmono (pe_not ha) fun σ H Q q => tR_mono (tR_bind q) fun lk L e st ws d q v H' g' => by
    cases d with
    | bl k =>
      cases Wr_bl (g'.wr List.mem_cons_self)
      exact ⟨k, rfl, q _ _ (g'.dropW.push fun z G _ _ => .bl _)⟩
    | _ => exact False.elim q
def ifV (t : M Bool) (f g : M D) : M D := t.bind fun k => if k then f else g
theorem pe_ifV {t : M Bool} (hc : PT X c (tT X p W t)) (ha : PE X a (tV X p W f)) (hb : PE X b (tV X p W g)) : PE X (.IfExp c a b pos) (tV X p W (ifV t f g)) :=
  PEmono (pe_ifExp hc ha hb) fun σ H Q q => tR_mono (tR_bind q) fun lk L e st ws k q H' g' => by
    cases k with
    | true => rw [if_pos rfl]; exact tR_at g' q
    | false => rw [if_neg Bool.false_ne_true]; exact tR_at g' q
theorem pe_ifW {t : M Bool} (hc : PT X c (tT X p W t)) (ha : PE X a (tW X p W f)) (hb : PE X b (tW X p W g)) : PE X (.IfExp c a b pos) (tW X p W (ifV t f g)) :=
  PEmono (pe_ifExp hc ha hb) fun σ H Q q => tR_mono (tR_bind q) fun lk L e st ws k q H' g' => by
    cases k with
    | true => rw [if_pos rfl]; exact tR_at g' q
    | false => rw [if_neg Bool.false_ne_true]; exact tR_at g' q
/-! ### a text's methods -/
/-- a method by values: it gives a new thing -/
def MtN (X : Cx) (id : String) (op : D → List D → Option Nw) : Prop :=
  MtR X id fun x xs H Q => (∀ a o xs, H a ≠ some (.frz o (.tup xs))) ∧ ∃ dx ds r, Wr X H x dx ∧ xs.length = ds.length ∧ (∀ w ∈ xs.zip ds, Wr X H w.1 w.2) ∧ op dx ds = some r ∧ NewR X H r Q
theorem MtN.of {id : String} {op : D → List D → Option Nw} {r : V → List V → Hp → VK → Prop} (h : MtR X id r) (k : ∀ x xs H Q dx ds n, (∀ a o xs, H a ≠ some (.frz o (.tup xs))) → Wr X H x dx → xs.length = ds.length → (∀ w ∈ xs.zip ds, Wr X H w.1 w.2) → op dx ds = some n → NewR X H n Q → r x xs H Q) : MtN X id op := by
  intro pins s σ H x xs v us Q I rx rs ⟨nf, dx, ds, n, hw1, hl, hw, ho, q⟩
  exact h pins s σ H x xs v us Q I rx rs (k x xs H Q dx ds n nf hw1 hl hw ho q)
def isStr : D → Bool
  | .str _ => true
  | _ => false
def smM1 (op : D → List D → Option Nw) (f g : M D) : M D := f.bind fun x => if isStr x then g.bind fun y => newM (op x [y]) else .bad
def smM0 (op : D → List D → Option Nw) (f : M D) : M D := f.bind fun x => if isStr x then newM (op x []) else .bad
theorem pe_smM1 {id : String} {name : Str} {op : D → List D → Option Nw} {apos : Pos} (slot : Slot "str" name id) (ty : typeOf (.builtin id) = pure (.type "method_descriptor")) (rule : MtN X id op) (ha : PE X a (tW X p W f)) (hb : PE X b (tW X p W g))
    (hs : starEach [b] X.env = [(false, eval b X.env)]) (hbase : attributeBase a name X.env (eval a X.env) = eval a X.env) (hline : (apos.endLine == pos.line) = true) :
    PE X (.Call (.Attribute a name apos) [b] [] pos) (tV X p W (smM1 op f g)) :=
  PEmono (pe_m1 slot ty rule ha hb hs hbase hline) fun σ H Q q => tR_mono (tR_bind q) fun lk L e st ws d q v H1 g1 => by
    by_cases hz : isStr d = true
    · rw [if_pos hz] at q
      refine ⟨?_, lk, L, e, st, .v v d :: ws, g1, ?_⟩
      · cases d <;> simp only [isStr, Bool.false_eq_true] at hz
        exact ⟨_, Wr_str (g1.wr List.mem_cons_self)⟩
      · unfold M.bind at q
        cases hg : g e with
        | exc => rw [hg] at q; exact q
        | bad => rw [hg] at q; exact q
        | ok y e' =>
          rw [hg] at q
          intro u H2 g2
          obtain ⟨r, h1, h2⟩ := newM_run q g2.dropW.dropW
          exact ⟨g2.nft, d, [y], r, g2.wr (List.mem_cons_of_mem _ List.mem_cons_self), rfl, fun w hw => (by
            rw [List.mem_singleton.mp (show w ∈ [(u, y)] from hw)]; exact g2.wr List.mem_cons_self), h1, h2⟩
    · rw [if_neg hz] at q; exact False.elim q
theorem pe_smM0 {id : String} {name : Str} {op : D → List D → Option Nw} {apos : Pos} (slot : Slot "str" name id) (ty : typeOf (.builtin id) = pure (.type "method_descriptor")) (rule : MtN X id op) (ha : PE X a (tW X p W f))
    (hbase : attributeBase a name X.env (eval a X.env) = eval a X.env) (hline : (apos.endLine == pos.line) = true) :
    PE X (.Call (.Attribute a name apos) [] [] pos) (tV X p W (smM0 op f)) :=
  PEmono (pe_m0 slot ty rule ha hbase hline) fun σ H Q q => tR_mono (tR_bind q) fun lk L e st ws d q v H1 g1 => by
    by_cases hz : isStr d = true
    · rw [if_pos hz] at q
      refine ⟨?_, ?_⟩
      · cases d <;> simp only [isStr, Bool.false_eq_true] at hz
        exact ⟨_, Wr_str (g1.wr List.mem_cons_self)⟩
      · obtain ⟨r, h1, h2⟩ := newM_run q g1.dropW
        exact ⟨g1.nft, d, [], r, g1.wr List.mem_cons_self, rfl, fun w hw => (by cases hw), h1, h2⟩
    · rw [if_neg hz] at q; exact False.elim q
def strsD : List D → Option (List Str)
  | [] => some []
  | .str x :: r => (strsD r).map (x :: ·)
  | _ :: _ => none
theorem strsD_of {z : Zo} : ∀ {xs : List V} {ds : List D} {ys : List Str} {A : List Addr}, Rp z H (.l xs ds) A → strsD ds = some ys → xs = ys.map V.str
  | [], [], _, _, _, h => by cases h; rfl
  | x :: xs, d :: ds, ys, _, r, h => by
    obtain ⟨A1, A2, r1, r2, _⟩ := r.cons_inv
    cases d <;> simp only [strsD, reduceCtorEq] at h
    cases q : strsD ds with
    | none => rw [q] at h; cases h
    | some zs =>
      rw [q] at h
      cases h
      rw [strsD_of r2 q]
      cases r1
      rfl
  | [], _ :: _, _, _, r, _ => by have := r.lenL; simp at this
  | _ :: _, [], _, _, r, _ => by have := r.lenL; simp at this
def bigT : Nat := 16777216
def joinD : D → List D → Option Nw
  | .str x, [.lst _ ds] => (strsD ds).bind fun ys => if (ys.map (·.length)).sum + ys.length * x.length ≤ bigT then some (.sc (.str (Txt.join x ys))) else none
  | .str x, [.tup ds] => (strsD ds).bind fun ys => if (ys.map (·.length)).sum + ys.length * x.length ≤ bigT then some (.sc (.str (Txt.join x ys))) else none
  | _, _ => none
theorem mn_join : MtN X "str.join" joinD := .of mt_join fun x xs H Q dx ds n nf w1 hl hw ho q => by
  unfold joinD at ho
  split at ho
  · rename_i x f ds
    obtain ⟨v, rfl⟩ := len1 hl
    cases Wr_str w1
    cases hs : strsD ds with
    | none => rw [hs] at ho; cases ho
    | some ys =>
      rw [hs] at ho
      dsimp only [Option.bind] at ho
      split at ho
      · rename_i hz
        cases ho
        obtain ⟨a, zs, rfl, rd, r⟩ := Wr_lst (hw (v, .lst f ds) (by simp))
        obtain rfl := strsD_of r hs
        obtain ⟨v, hv, q⟩ := q
        cases hv
        exact ⟨_, a, ys, rfl, rfl, .inl (.inl rd), hz, q⟩
      · cases ho
  · rename_i x ds
    obtain ⟨v, rfl⟩ := len1 hl
    cases Wr_str w1
    cases hs : strsD ds with
    | none => rw [hs] at ho; cases ho
    | some ys =>
      rw [hs] at ho
      dsimp only [Option.bind] at ho
      split at ho
      · rename_i hz
        cases ho
        obtain ⟨a, zs, rfl, rd, r⟩ := Wr_tup (hw (v, .tup ds) (by simp))
        obtain rfl := strsD_of r hs
        obtain ⟨v, hv, q⟩ := q
        cases hv
        exact ⟨_, a, ys, rfl, rfl, .inr rd, hz, q⟩
      · cases ho
  · cases ho
def splitD : D → List D → Option Nw
  | .str x, [.str y] => if (y.length == 0) = false ∧ x.length + 2 ≤ sizeLine then some (.nl ((Txt.split x y).map .str)) else none
  | _, _ => none
theorem strs_rp {z : Zo} {H : Hp} : ∀ ys : List Str, Rp z H (.l (ys.map V.str) (ys.map D.str)) []
  | [] => .nil
  | y :: ys => .cons (A := []) (B := []) (.str y) (strs_rp ys)
theorem mn_split : MtN X "str.split" splitD := .of mt_split fun x xs H Q dx ds n nf w1 hl hw ho q => by
  unfold splitD at ho
  split at ho
  · rename_i x y
    split at ho
    · rename_i hz
      cases ho
      obtain ⟨v, rfl⟩ := len1 hl
      cases Wr_str w1
      cases Wr_str (hw (v, .str y) (by simp))
      exact ⟨x, y, rfl, rfl, hz.1, hz.2, fun p hp => q.2 p _ hp (strs_rp _)⟩
    · cases ho
  · cases ho
def startsD : D → List D → Option Nw
  | .str x, [.str y] => some (.sc (.bl (Txt.startswith x y)))
  | _, _ => none
theorem mn_starts : MtN X "str.startswith" startsD := .of mt_startswith fun x xs H Q dx ds n nf w1 hl hw ho q => by
  unfold startsD at ho
  split at ho
  · rename_i x y
    cases ho
    obtain ⟨v, rfl⟩ := len1 hl
    cases Wr_str w1
    cases Wr_str (hw (v, .str y) (by simp))
    obtain ⟨v, hv, q⟩ := q
    cases hv
    exact ⟨x, y, rfl, rfl, q⟩
  · cases ho
/-! ### all, any, str, int, list -/
def blsD : List D → Option (List Bool)
  | [] => some []
  | .bl x :: r => (blsD r).map (x :: ·)
  | _ :: _ => none
theorem blsD_of {z : Zo} : ∀ {xs : List V} {ds : List D} {ys : List Bool} {A : List Addr}, Rp z H (.l xs ds) A → blsD ds = some ys → xs = ys.map V.bl
  | [], [], _, _, _, h => by cases h; rfl
  | x :: xs, d :: ds, ys, _, r, h => by
    obtain ⟨A1, A2, r1, r2, _⟩ := r.cons_inv
    cases d <;> simp only [blsD, reduceCtorEq] at h
    cases q : blsD ds with
    | none => rw [q] at h; cases h
    | some zs =>
      rw [q] at h
      cases h
      rw [blsD_of r2 q]
      cases r1
      rfl
  | [], _ :: _, _, _, r, _ => by have := r.lenL; simp at this
  | _ :: _, [], _, _, r, _ => by have := r.lenL; simp at this
def allD : List D → Option Nw
  | [.lst _ ds] => (blsD ds).map fun bs => .sc (.bl (bs.all id))
  | _ => none
def anyD : List D → Option Nw
  | [.lst _ ds] => (blsD ds).map fun bs => .sc (.bl (bs.any id))
  | _ => none
theorem cn_all (hc : X.calm = true) : CallN X (.builtin "all") allD := .of (cr_all hc) fun xs H Q ds n hl hw ho q => by
  unfold allD at ho
  split at ho
  · rename_i f ds
    obtain ⟨v, rfl⟩ := len1 hl
    cases hs : blsD ds with
    | none => rw [hs] at ho; cases ho
    | some ys =>
      rw [hs] at ho
      cases ho
      obtain ⟨a, zs, rfl, rd, r⟩ := Wr_lst (hw (v, .lst f ds) (by simp))
      obtain rfl := blsD_of r hs
      obtain ⟨v, hv, q⟩ := q
      cases hv
      exact ⟨a, ys, rfl, .inl rd, q⟩
  · cases ho
theorem cn_any (hc : X.calm = true) : CallN X (.builtin "any") anyD := .of (cr_any hc) fun xs H Q ds n hl hw ho q => by
  unfold anyD at ho
  split at ho
  · rename_i f ds
    obtain ⟨v, rfl⟩ := len1 hl
    cases hs : blsD ds with
    | none => rw [hs] at ho; cases ho
    | some ys =>
      rw [hs] at ho
      cases ho
      obtain ⟨a, zs, rfl, rd, r⟩ := Wr_lst (hw (v, .lst f ds) (by simp))
      obtain rfl := blsD_of r hs
      obtain ⟨v, hv, q⟩ := q
      cases hv
      exact ⟨a, ys, rfl, .inl rd, q⟩
  · cases ho
def absD : List D → Option Nw
  | [.int i] => some (.sc (.int (if i < 0 then -i else i)))
  | _ => none
theorem cn_abs : CallN X (.builtin "abs") absD := .of call_abs fun xs H Q ds n hl hw ho q => by
  unfold absD at ho
  split at ho
  · rename_i i
    cases ho
    obtain ⟨v, rfl⟩ := len1 hl
    cases Wr_int (hw (v, .int i) (by simp))
    obtain ⟨v, hv, q⟩ := q
    cases hv
    exact ⟨i, rfl, q⟩
  · cases ho
def strD : List D → Option Nw
  | [.int i] => if i.natAbs.log2 < 1920 then some (.sc (.str (toString i))) else none
  | [.str x] => some (.sc (.str x))
  | _ => none
theorem cn_str : CallN X (.type "str") strD := .of (L2.CallR.or call_str_int SkE.call_str_str) fun xs H Q ds n hl hw ho q => by
  unfold strD at ho
  split at ho
  · rename_i i
    split at ho
    · rename_i hz
      cases ho
      obtain ⟨v, rfl⟩ := len1 hl
      cases Wr_int (hw (v, .int i) (by simp))
      obtain ⟨v, hv, q⟩ := q
      cases hv
      exact .inl ⟨i, rfl, hz, q⟩
    · cases ho
  · rename_i i
    cases ho
    obtain ⟨v, rfl⟩ := len1 hl
    cases Wr_str (hw (v, .str i) (by simp))
    obtain ⟨v, hv, q⟩ := q
    cases hv
    exact .inr ⟨i, rfl, q⟩
  · cases ho
def listD : List D → Option Nw
  | [.lst _ ds] => if immL ds = true then some (.nl ds) else none
  | [.tup ds] => if immL ds = true then some (.nl ds) else none
  | _ => none
theorem cn_list : CallN X (.type "list") listD := .of call_list_of fun xs H Q ds n hl hw ho q => by
  unfold listD at ho
  split at ho
  · rename_i f ds
    split at ho
    · cases ho
      obtain ⟨v, rfl⟩ := len1 hl
      obtain ⟨a, zs, rfl, rd, r⟩ := Wr_lst (hw (v, .lst f ds) (by simp))
      exact ⟨a, zs, rfl, .inl (.inl rd), fun p hp => q.2 p _ hp r⟩
    · cases ho
  · rename_i ds
    split at ho
    · cases ho
      obtain ⟨v, rfl⟩ := len1 hl
      obtain ⟨a, zs, rfl, rd, r⟩ := Wr_tup (hw (v, .tup ds) (by simp))
      exact ⟨a, zs, rfl, .inr rd, fun p hp => q.2 p _ hp r⟩
    · cases ho
  · cases ho
end
end DG

set_option Elab.async false
set_option linter.all false
set_option maxHeartbeats 4000000
/-! DGq: displays of dicts. -/
namespace DG
open PySem PySem.Spec PyProof.Rows L2
set_option autoImplicit false
section
variable {X : Cx} {p : Par} {W : WX} {lk : List Addr} {L : Lk} {σ : L2.St} {H : Hp} {e : Env} {st : Stk} {ws : List Wk} {a b c : Expr} {pos : Pos} {f g h : M D}
def pairsM : List (M D × M D) → M (List (Key × D))
  | [] => .ret []
  | (fk, fv) :: r => (noexc fk).bind fun dk => match keyD dk with
    | some k => (noexc fv).bind fun d => (pairsM r).bind fun kvs => .ret ((k, d) :: kvs)
    | none => .bad
def dispM (prs : List (M D × M D)) : M D := (pairsM prs).bind fun kvs => if kvs.length ≤ 15 ∧ (kvs.map (·.1)).Nodup then .ret (.dk .own kvs) else .bad
theorem mergeK_nodup : ∀ {kvs acc : List (Key × V)}, ((acc ++ kvs).map (·.1)).Nodup → mergeK acc kvs = acc ++ kvs
  | [], acc, _ => by rw [List.append_nil]; rfl
  | kv :: r, acc, h => by
    have e : putK acc kv.1 kv.2 = acc ++ [kv] := by
      unfold putK
      rw [if_neg]
      intro z
      obtain ⟨x, hx, hk⟩ := List.any_eq_true.mp z
      rw [List.map_append] at h
      exact (List.nodup_append.mp h).2.2 x.1 (List.mem_map.mpr ⟨x, hx, rfl⟩) kv.1 (by simp) (of_decide_eq_true hk)
    show mergeK (putK acc kv.1 kv.2) r = _
    rw [e, mergeK_nodup (by rw [List.append_assoc]; exact h), List.append_assoc]
    rfl
theorem tPairs_of : ∀ {prs : List (M D × M D)} {H : Hp} {e : Env} {st : Stk} {R : List (V × V) → Hp → Prop}, Gd X p lk L σ H e st ws →
    (pairsM prs e).run (fun kvs e' => ∀ vs H', vs.length = kvs.length → Gd X p lk L σ H' e' (vs.zip (kvs.map (·.2)) ++ st) ws → R (((kvs.map (·.1)).zip vs).map fun q => (kV q.1, q.2)) H') (fun _ _ _ => False) →
    tPairs (prs.map fun q => (tW X p W0 q.1, tV X p W0 q.2)) σ H R
  | [], H, e, st, R, g, q => q [] H rfl g
  | (fk, fv) :: r, H, e, st, R, g, q => by
    refine ⟨lk, L, e, st, ws, g, ?_⟩
    have q1 := run_noexc (ex' := XW X p W0 lk L σ st) (run_bind (show ((noexc fk).bind _ e).run _ _ from q))
    refine Res.run_mono q1 (fun dk e1 q1 => ?_) fun _ _ _ z => z
    intro x H1 g1
    cases hk : keyD dk with
    | none => rw [hk] at q1; exact False.elim q1
    | some k =>
      rw [hk] at q1
      have hx : x = kV k := keyD_of (g1.wr List.mem_cons_self) hk
      refine ⟨lk, L, e1, st, ws, g1.dropW, ?_⟩
      have q2 := run_noexc (ex' := XW X p W0 lk L σ st) (run_bind q1)
      refine Res.run_mono q2 (fun d e2 q2 => ?_) fun _ _ _ z => z
      intro v H2 g2
      refine tPairs_of (R := fun ps H3 => R ((x, v) :: ps) H3) g2 (Res.run_mono (run_bind q2) (fun kvs e3 q3 => ?_) fun _ _ _ z => z)
      intro vs H3 hl g3
      rw [hx]
      exact q3 (v :: vs) H3 (by simp [hl]) (g3.perm (by rw [List.map_cons, List.zip_cons_cons]; exact List.perm_middle))
theorem pe_dispM {keys : List (Option Expr)} {values : List Expr} {prs : List (M D × M D)} (h : PPs X pos keys values (prs.map fun q => (tW X p W0 q.1, tV X p W0 q.2))) (hall : keys.all (·.isSome) = true) (hl : keys.length = values.length) (h0 : keys ≠ []) (h15 : keys.length ≤ 15) :
    PE X (.Dict keys values pos) (tV X p W (dispM prs)) :=
  PEmono (pe_disp h hall hl h0 h15) fun σ H Q ⟨lk, L, e, st, ws, g, q⟩ => fun D hD => by
    obtain ⟨g2, hh⟩ := g.hide (o := .dK []) hD trivial
    refine tPairs_of g2 ?_
    unfold dispM M.bind at q
    cases hp : pairsM prs e with
    | bad => rw [hp] at q; exact q
    | exc c fs e' =>
      exfalso
      have key : ∀ (prs : List (M DG.D × M DG.D)) (e : Env), ∀ c fs e', pairsM prs e ≠ .exc c fs e' := by
        intro prs
        induction prs with
        | nil => intro e c fs e' z; cases z
        | cons pr r ih =>
          intro e c fs e' z
          obtain ⟨fk, fv⟩ := pr
          unfold pairsM M.bind noexc at z
          cases h1 : fk e with
          | exc => rw [h1] at z; cases z
          | bad => rw [h1] at z; cases z
          | ok dk e1 =>
            rw [h1] at z
            dsimp only at z
            cases hk : keyD dk with
            | none => rw [hk] at z; cases z
            | some k =>
              rw [hk] at z
              dsimp only at z
              cases h2 : fv e1 with
              | exc => rw [h2] at z; cases z
              | bad => rw [h2] at z; cases z
              | ok d e2 =>
                rw [h2] at z
                dsimp only at z
                cases h3 : pairsM r e2 with
                | exc c' fs' e'' => exact ih e2 _ _ _ h3
                | bad => rw [h3] at z; cases z
                | ok => rw [h3] at z; cases z
      exact key prs e _ _ _ hp
    | ok kvs e' =>
      rw [hp] at q
      dsimp only at q
      by_cases hz : kvs.length ≤ 15 ∧ (kvs.map (·.1)).Nodup
      case neg => rw [if_neg hz] at q; exact False.elim q
      rw [if_pos hz] at q
      intro vs H2 hlv g3
      refine ⟨g3.hid, (kvs.map (·.1)).zip vs, rfl, by rw [List.length_zip, hlv, List.length_map]; omega, ?_⟩
      have hnd : (((kvs.map (·.1)).zip vs).map (·.1)).Nodup := by
        rw [List.map_fst_zip (by rw [hlv, List.length_map]; exact Nat.le_refl _)]
        exact hz.2
      have em : mergeK [] ((kvs.map (·.1)).zip vs) = (kvs.map (·.1)).zip vs := mergeK_nodup (acc := []) hnd
      rw [em]
      refine q _ _ (Gd.unhide (own := true) (g3.rehide (o' := .dK _) trivial) hh (.dk .own kvs) fun z G B kK kg hlk hG rS => ?_)
      refine Rp.dk (f := .own) hG hlk hz.2 ?_
      clear g3 q hG hnd hp h g2
      have : ∀ {kvs : List (Key × DG.D)} {vs : List V} {B : List Addr}, vs.length = kvs.length → RpS z G (vs.zip (kvs.map (·.2))) B → Rp z G (.k ((kvs.map (·.1)).zip vs) kvs) B := by
        intro kvs
        induction kvs with
        | nil => intro vs B hl rS; cases vs with
          | nil => cases rS; exact .knil
          | cons => simp at hl
        | cons kv r ih =>
          intro vs B hl rS
          cases vs with
          | nil => simp at hl
          | cons v vs =>
            rw [List.map_cons, List.zip_cons_cons] at rS
            cases rS with
            | cons r1 r2 => exact .kcons r1 (ih (by simpa using hl) r2)
      exact this hlv rS
def newDK : M D := .ret (.dk .own [])
theorem pe_newDK : PE X (.Dict [] [] pos) (tV X p W newDK) :=
  PEmono pe_dnewK fun σ H Q ⟨lk, L, e, st, ws, g, q⟩ a ha => q _ _ (Gd.alloc (front := []) g ha (.dK []) (.dk .own []) true fun z G B kK kg hlk hG k rS => by
    cases rS
    exact .dk (f := .own) hG hlk List.nodup_nil .knil)
def newDT : M D := .ret (.dt .own [])
theorem pe_newDT : PE X (.Dict [] [] pos) (tV X p W newDT) :=
  PEmono pe_dnewT fun σ H Q ⟨lk, L, e, st, ws, g, q⟩ a ha => q _ _ (Gd.alloc (front := []) g ha (.dT []) (.dt .own []) true fun z G B kK kg hlk hG k rS => by
    cases rS
    exact .dt (f := .own) hG hlk List.nodup_nil .tnil)
end
end DG

set_option Elab.async false
set_option linter.all false
set_option maxHeartbeats 4000000
/-! DHa: several targets; negative ints. -/
namespace DG
open PySem PySem.Spec PyProof.Rows L2
set_option autoImplicit false
theorem Rp.lS {z : Zo} {H : Hp} : ∀ {xs : List V} {ds : List D} {A : List Addr}, Rp z H (.l xs ds) A → RpS z H (xs.zip ds) A
  | [], [], _, .nil => .nil
  | _ :: _, _ :: _, _, .cons r rr => .cons r rr.lS
section
variable {X : Cx} {p : Par} {W : WX} {lk : List Addr} {L : Lk} {σ : L2.St} {H : Hp} {e : Env} {st : Stk} {ws : List Wk} {a b c : Expr} {pos : Pos} {f g h : M D}
theorem Gd.untup {v : V} {ds : List D} (g : Gd X p lk L σ H e ((v, .tup ds) :: st) ws) : ∃ a xs, v = .ref a ∧ Rd H a (.tup xs) ∧ xs.length = ds.length ∧ Gd X p lk L σ H e (xs.zip ds ++ st) ws := by
  obtain ⟨S, G, A, B, g⟩ := g
  cases hs : g.stk with
  | @cons _ _ A1 B1 r rr =>
    obtain ⟨a, xs, e1, t, rl⟩ := Rp.tup_inv (show Rp _ _ (.v v (.tup ds)) A1 from r)
    have e1 : v = .ref a := e1
    subst e1
    have t : Rd G a (.tup xs) := t
    exact ⟨a, xs, rfl, by rw [g.hL]; exact lockAll_rd g.lkd t, rl.lenL, S, G, A, A1 ++ B1, g.less g.env (rl.lS.append rr) g.wk ⟨[], .refl _⟩ g.pin⟩
/-- targets: b: nothing weak is pending; else only the slots own change -/
def tGg (X : Kx) (p : Par) (b : Bool) (own : List Nat) (f : DG.D → Env → Option Env) : TG := fun v σ H Q => ∃ lk L e st ws d e', (b = true → ws = []) ∧ Gd X p lk L σ H e ((v, d) :: st) ws ∧ f d e = some e' ∧
  ∀ σ' H', (b = false → σ'.length = σ.length ∧ ∀ i, i ∉ own → σ'[i]? = σ[i]?) → Gd X p lk L σ' H' e' st ws → Q σ' H'
def tGs (X : Kx) (p : Par) (b : Bool) (own : List Nat) (f : List DG.D → Env → Option Env) : TGs := fun vs σ H Q => ∃ lk L e st ws ds e', (b = true → ws = []) ∧ vs.length = ds.length ∧ Gd X p lk L σ H e (vs.zip ds ++ st) ws ∧ f ds e = some e' ∧
  ∀ σ' H', (b = false → σ'.length = σ.length ∧ ∀ i, i ∉ own → σ'[i]? = σ[i]?) → Gd X p lk L σ' H' e' st ws → Q σ' H'
theorem tGg_0 {t : Expr} {f : D → Env → Option Env} {own : List Nat} (h : PG X t (tGg X p true own f)) : PG X t (tG0 X p f) :=
  PGmono h fun v σ H Q ⟨lk, L, e, st, d, e', g, he, q⟩ => ⟨lk, L, e, st, [], d, e', fun _ => rfl, g, he, fun σ' H' _ g => q σ' H' g⟩
theorem tGg_o {t : Expr} {f : D → Env → Option Env} {own : List Nat} (h : PG X t (tGg X p false own f)) : PG X t (tGo X p own f) :=
  PGmono h fun v σ H Q ⟨lk, L, e, st, ws, d, e', g, he, q⟩ => ⟨lk, L, e, st, ws, d, e', fun z => (by cases z), g, he, fun σ' H' k g => q σ' H' (k rfl).1 (k rfl).2 g⟩
def asgAll : List (D → Env → Option Env) → List D → Env → Option Env
  | [], [], e => some e
  | f :: fs, d :: ds, e => (f d e).bind fun e' => asgAll fs ds e'
  | _, _, _ => none
def tupG (fs : List (D → Env → Option Env)) (d : D) (e : Env) : Option Env := match d with
  | .tup ds => asgAll fs ds e
  | _ => none
def isName : Expr → Bool
  | .Name _ _ => true
  | .Tuple _ _ _ => true
  | _ => false
inductive TgsOk (X : Cx) (p : Par) (b : Bool) (own : List Nat) : List Expr → List (D → Env → Option Env) → Prop
  | nil : TgsOk X p b own [] []
  | cons {t : Expr} {f : D → Env → Option Env} {es : List Expr} {fs : List (D → Env → Option Env)} : isName t = true → PG X t (tGg X p b own f) → TgsOk X p b own es fs → TgsOk X p b own (t :: es) (f :: fs)
theorem pg_nameG {bb : Bool} {own : List Nat} {i : Nat} {x : Str} {io : Bool} {pos' : Pos} (hio : io = false → p.io = none) (hN : X.N.Nodup) (hi : X.N[i]? = some x) (hx : L2.Loc X.env.scope x) (hf : X.fn x = true ∨ X.env.scope.names.lookup x = some .local) (hb : bb = true ∨ (i ∉ p.nl ∧ i ∈ own)) :
    PG X (.Name x pos') (tGg X p bb own (putE io i)) :=
  PGmono (pg_name hN hi hx hf) fun v σ H Q ⟨lk, L, e, st, ws, d, e', hw, g, he, q⟩ => by
    obtain ⟨h1, h2, rfl⟩ := putE_of he
    refine q _ _ (fun z => ?_) (g.store h1 (h2.elim (fun z => .inl (hio z)) .inr) ?_)
    · rcases hb with hb | hb
      · rw [hb] at z; cases z
      · exact ⟨List.length_set .., fun j hj => List.getElem?_set_ne fun z => hj (by subst z; exact hb.2)⟩
    · rcases hb with hb | hb
      · exact .inl (hw hb)
      · exact .inr hb.1
theorem pgs_all {bb : Bool} {own : List Nat} : ∀ {es : List Expr} {fs : List (D → Env → Option Env)}, TgsOk X p bb own es fs → PGs X es (tGs X p bb own (asgAll fs))
  | _, _, .nil => ⟨fun pins s σ H vs us Q I r ⟨lk, L, e, st, ws, ds, e', hw, hl, g, he, q⟩ => by
      cases ds with
      | nil =>
        have : vs = [] := List.eq_nil_of_length_eq_zero hl
        subst this
        cases he
        exact pgs_nil.run pins s σ H [] us Q I r ⟨rfl, q σ H (fun _ => ⟨rfl, fun _ _ => rfl⟩) g⟩
      | cons => cases he⟩
  | t :: es, f :: fs, .cons hn h hr => by
    have rest := pgs_all hr
    have key := pgs_cons h rest (by cases t <;> first | rfl | cases hn)
    refine ⟨fun pins s σ H vs us Q I r ⟨lk, L, e, st, ws, ds, e', hw, hl, g, he, q⟩ => key.run pins s σ H vs us Q I r ?_⟩
    cases ds with
    | nil => cases he
    | cons d ds =>
      cases vs with
      | nil => simp at hl
      | cons v vs =>
        rw [List.zip_cons_cons] at g
        unfold asgAll at he
        cases hf : f d e with
        | none => rw [hf] at he; cases he
        | some e1 =>
          rw [hf] at he
          refine ⟨v, vs, rfl, lk, L, e, vs.zip ds ++ st, ws, d, e1, hw, g, hf, fun σ1 H1 k1 g1 => ?_⟩
          refine ⟨lk, L, e1, st, ws, ds, e', hw, by simpa using hl, g1, he, fun σ' H' k2 g2 => q σ' H' (fun z => ?_) g2⟩
          exact ⟨(k2 z).1.trans (k1 z).1, fun i hi => ((k2 z).2 i hi).trans ((k1 z).2 i hi)⟩
theorem pg_tupG {bb : Bool} {own : List Nat} {es : List Expr} {k : Nat} {fs : List (D → Env → Option Env)} (hc : X.calm = true) (h : TgsOk X p bb own es fs)
    (hn : (assignEach es X.env).length = fs.length) (hst : (assignEach es X.env).findIdx? (·.1) = none) : PG X (.Tuple es k pos) (tGg X p bb own (tupG fs)) :=
  PGmono (pg_tup hc (pgs_all h) hn hst) fun v σ H Q ⟨lk, L, e, st, ws, d, e', hw, g, he, q⟩ => by
    cases d with
    | tup ds =>
      obtain ⟨a, xs, rfl, rd, hl, g2⟩ := g.untup
      have he : asgAll fs ds e = some e' := he
      have hlen : ds.length = fs.length := by
        have : ∀ (fs : List (D → Env → Option Env)) (ds : List D) (e e' : Env), asgAll fs ds e = some e' → ds.length = fs.length := by
          intro fs
          induction fs with
          | nil => intro ds e e' h; cases ds with
            | nil => rfl
            | cons => cases h
          | cons f fs ih => intro ds e e' h; cases ds with
            | nil => cases h
            | cons d ds =>
              unfold asgAll at h
              cases hf : f d e with
              | none => rw [hf] at h; cases h
              | some e1 => rw [hf] at h; simp [ih ds e1 e' h]
        exact this fs ds e e' he
      exact ⟨a, xs, rfl, .inl rd, by rw [hl, hlen], lk, L, e, st, ws, ds, e', hw, hl, g2, he, q⟩
    | _ => cases he
end
end DG

set_option Elab.async false
set_option linter.all false
set_option maxHeartbeats 4000000
/-! DHb: enumerate, zip of lists. -/
namespace DG
open PySem PySem.Spec PyProof.Rows L2
set_option autoImplicit false
section
variable {X : Cx} {p : Par} {W : WX} {lk : List Addr} {L : Lk} {σ : L2.St} {H : Hp} {e : Env} {st : Stk} {ws : List Wk} {a b c : Expr} {pos : Pos} {f g h : M D}
def enumD : Nat → List D → List D
  | _, [] => []
  | n, d :: r => .tup [.int n, d] :: enumD (n + 1) r
theorem enumD_get : ∀ (ds : List D) (n i : Nat), (enumD n ds)[i]? = ds[i]?.map fun d => .tup [.int ((n + i : Nat) : Int), d]
  | [], n, i => by simp [enumD]
  | d :: r, n, 0 => rfl
  | d :: r, n, i + 1 => by
    show (enumD (n + 1) r)[i]? = _
    rw [enumD_get r (n + 1) i, show n + 1 + i = n + (i + 1) by omega]
    rfl
def frzD (io : Bool) (d : D) : Option (List D) := match d with
  | .lst f ds => if allF noLk (.lst f ds) ∧ allFL noOwn (mapFL (shF io) ds) then some (mapFL (shF io) ds) else none
  | _ => none
/-- a pending list is frozen -/
theorem Gd.frz {v : V} {d : D} {ds : List D} {io : Bool} (g : Gd X p lk L σ H e ((v, d) :: st) ws) (h : frzD io d = some ds) (hio : io = false → p.O = []) :
    ∃ fl, Gd X p lk L σ H e ((v, .lst fl ds) :: st) ws ∧ allFL noOwn ds = true := by
  cases d with
  | lst fl ds0 =>
    unfold frzD at h
    dsimp only at h
    by_cases hz : allF noLk (.lst fl ds0) = true ∧ allFL noOwn (mapFL (shF io) ds0) = true
    · rw [if_pos hz] at h
      cases h
      exact ⟨_, g.freeze hz.1 hio, hz.2⟩
    · rw [if_neg hz] at h; cases h
  | _ => cases h
/-- a new tuple of pending values -/
theorem Gd.mkTup {front : Stk} {T : Addr} (g : Gd X p lk L σ H e (front ++ st) ws) (hT : H T = none) : Gd X p lk L σ (upd H T (.tup (front.map (·.1)))) e ((.ref T, .tup (front.map (·.2))) :: st) ws :=
  Gd.alloc g hT (.tup _) (.tup _) false fun z G B kK kg hlk hG k rS => by
    have := rS.toL
    exact .tup (.inl hG) this
def enumL (io : Bool) (d : D) : M (List D) := .opt ((frzD io d).map (enumD 0))
theorem pi_enumM {io : Bool} {p1 tpos : Pos} {elts : List Expr} {kk : Nat} (hg : Gl X "enumerate") (hm : X.mg "enumerate" = none) (hio : io = false → p.O = []) (ha : PE X a (tV X p W f)) (hs : starEach [a] X.env = [(false, eval a X.env)]) :
    PI X (.Tuple elts kk tpos) (.Call (.Name "enumerate" p1) [a] [] pos) (tI X p W (f.bind (enumL io))) :=
  PImono (pi_enum hg hm (pa_cons ha pa_nil hs) hs) fun σ H R q => tR_mono (tR_bind q) fun lk L e st ws d q v H1 g1 => by
    unfold enumL at q
    cases hz : frzD io d with
    | none => rw [hz] at q; exact False.elim q
    | some ds =>
      rw [hz] at q
      obtain ⟨fl, g2, hn⟩ := g1.frz hz hio
      obtain ⟨a, xs, rfl, rd, hl, _⟩ := Gd.item (front := []) g2 hn
      refine ⟨a, xs, rfl, .inl rd, q (Ite X.K a) H1 [(.ref a, .lst fl ds)] L .refl g2 fun L' _ i σ' H' e' front ws' g' => ?_⟩
      obtain ⟨a', xs', e1, rd', hl', k⟩ := Gd.item (st' := st) g' hn
      cases e1
      rw [enumD_get]
      refine ⟨fun d hd => ?_, fun hd _ => ⟨xs', .inl rd', by
        rw [hl']
        cases hq : ds[i]? with
        | none => exact List.getElem?_eq_none_iff.mp hq
        | some => rw [hq] at hd; cases hd⟩⟩
      cases hq : ds[i]? with
      | none => rw [hq] at hd; cases hd
      | some d0 =>
        rw [hq] at hd
        cases hd
        have hi : i < xs'.length := by rw [hl']; exact (List.getElem?_eq_some_iff.mp hq).1
        refine ⟨⟨xs', xs'[i], .inl rd', List.getElem?_eq_getElem hi⟩, fun x H'' ⟨T, y, h1, h2, h3, h4⟩ => ?_⟩
        subst h1 h3
        have hy := h4 xs' (.inl rd')
        have g3 := (k i y d0 hy hq).push (v := .int (i : Nat)) (d := .int ((0 + i : Nat) : Int)) fun z G _ _ => by rw [Nat.zero_add]; exact .int _
        exact Gd.mkTup (front := [(.int (i : Nat), .int ((0 + i : Nat) : Int)), (y, d0)]) g3 h2
def zipD : List D → List D → List D
  | a :: as, b :: bs => .tup [a, b] :: zipD as bs
  | _, _ => []
theorem zipD_get : ∀ (as bs : List D) (i : Nat), (zipD as bs)[i]? = match as[i]?, bs[i]? with
    | some a, some b => some (.tup [a, b])
    | _, _ => none
  | [], _, _ => by simp [zipD]
  | a :: as, [], i => by
    show ([] : List D)[i]? = _
    rw [List.getElem?_nil]
    cases (a :: as)[i]? <;> rfl
  | a :: as, b :: bs, 0 => rfl
  | a :: as, b :: bs, i + 1 => zipD_get as bs i
def zipLL (io : Bool) (x y : D) : M (List D) := match frzD io x, frzD io y with
  | some as, some bs => .ret (zipD as bs)
  | _, _ => .bad
theorem pi_zipM {io : Bool} {p1 tpos : Pos} {elts : List Expr} {kk : Nat} (hg : Gl X "zip") (hm : X.mg "zip" = none) (hio : io = false → p.O = []) (ha : PE X a (tV X p W f)) (hb : PE X b (tV X p W g)) (hs : starEach [a, b] X.env = (false, eval a X.env) :: starEach [b] X.env) (hs2 : starEach [b] X.env = [(false, eval b X.env)])
    (hpl : (backTo pos (starEach [b] X.env)).any (·.1) = false) : PI X (.Tuple elts kk tpos) (.Call (.Name "zip" p1) [a, b] [] pos) (tI X p W (f.bind fun x => g.bind fun y => zipLL io x y)) :=
  PImono (pi_zip hg hm (pa_cons ha (pa_cons hb pa_nil hs2) hs) hs hpl) fun σ H R q => tR_mono (tR_bind q) fun lk L e st ws da q v H1 g1 => by
    refine ⟨lk, L, e, (v, da) :: st, ws, g1, ?_⟩
    unfold M.bind at q
    cases hge : g e with
    | bad => rw [hge] at q; exact q
    | exc c fs e' =>
      rw [hge] at q
      refine fun cls d' H' ⟨h1, h2⟩ => q cls d' H' ⟨h1, h2.elim (fun z => .inl ⟨z.1, z.2.1, z.2.2.drop⟩) fun ⟨dd, fv, z1, z0, z2, z3, z4⟩ => .inr ⟨dd, fv, z1, z0, z2, z3, ?_⟩⟩
      exact Gd.drop (w := (v, da)) (z4.perm List.perm_middle)
    | ok db e' =>
      rw [hge] at q
      intro u H2 g2
      unfold zipLL at q
      dsimp only at q
      cases hx : frzD io da with
      | none => rw [hx] at q; exact False.elim q
      | some as =>
        cases hy : frzD io db with
        | none => rw [hx, hy] at q; exact False.elim q
        | some bs =>
          rw [hx, hy] at q
          obtain ⟨fl2, g3, hn2⟩ := g2.frz hy hio
          obtain ⟨fl1, g4, hn1⟩ := (g3.perm (.swap ..)).frz hx hio
          obtain ⟨a1, xs, rfl, rd1, hl1, _⟩ := Gd.item (front := []) g4 hn1
          obtain ⟨a2, ys, rfl, rd2, hl2, _⟩ := Gd.item (front := [(.ref a1, .lst fl1 as)]) g4 hn2
          refine ⟨a1, a2, xs, ys, rfl, .inl rd1, .inl rd2, q (Itz X.K a1 a2) H2 [(.ref a1, .lst fl1 as), (.ref a2, .lst fl2 bs)] L .refl g4 fun L' _ i σ' H' e' front ws' g' => ?_⟩
          obtain ⟨a1', xs', e1, rd1', hl1', k1⟩ := Gd.item (st' := (.ref a2, .lst fl2 bs) :: st) g' hn1
          obtain ⟨a2', ys', e2, rd2', hl2', _⟩ := Gd.item (front := front ++ [(.ref a1, .lst fl1 as)]) (st' := st) (by rw [List.append_assoc]; exact g') hn2
          cases e1
          cases e2
          rw [zipD_get]
          refine ⟨fun d hd => ?_, fun hd _ => ⟨xs', ys', .inl rd1', .inl rd2', ?_⟩⟩
          · cases hq1 : as[i]? with
            | none => rw [hq1] at hd; cases hd
            | some d1 =>
              cases hq2 : bs[i]? with
              | none => rw [hq1, hq2] at hd; cases hd
              | some d2 =>
                rw [hq1, hq2] at hd
                cases hd
                have hi1 : i < xs'.length := by rw [hl1']; exact (List.getElem?_eq_some_iff.mp hq1).1
                have hi2 : i < ys'.length := by rw [hl2']; exact (List.getElem?_eq_some_iff.mp hq2).1
                refine ⟨⟨xs', ys', xs'[i], ys'[i], .inl rd1', .inl rd2', List.getElem?_eq_getElem hi1, List.getElem?_eq_getElem hi2⟩, fun x H'' ⟨T, y1, y2, h1, h2, h3, h4, h5⟩ => ?_⟩
                subst h1 h3
                have g5 := k1 i y1 d1 (h4 xs' (.inl rd1')) hq1
                obtain ⟨a3, ys3, e3, rd3, hl3, k3⟩ := Gd.item (front := (y1, d1) :: (front ++ [(.ref a1, .lst fl1 as)])) (st' := st) (by rw [List.cons_append, List.append_assoc]; exact g5) hn2
                cases e3
                have g6 := k3 i y2 d2 (h5 ys3 (.inl rd3)) hq2
                have g7 : Gd X p lk L' σ' H' e' ([(y1, d1), (y2, d2)] ++ (front ++ ([(.ref a1, .lst fl1 as), (.ref a2, .lst fl2 bs)] ++ st))) ws' := by
                  refine g6.perm ?_
                  rw [List.cons_append, List.append_assoc]
                  exact .swap ..
                exact Gd.mkTup g7 h2
          · cases hq1 : as[i]? with
            | none => exact .inl (by rw [hl1']; exact List.getElem?_eq_none_iff.mp hq1)
            | some d1 =>
              cases hq2 : bs[i]? with
              | none => exact .inr (by rw [hl2']; exact List.getElem?_eq_none_iff.mp hq2)
              | some d2 => rw [hq1, hq2] at hd; cases hd
end
end DG

set_option Elab.async false
set_option linter.all false
set_option maxHeartbeats 4000000
/-! DHc: while; negative ints; int(). -/
namespace DG
open PySem PySem.Spec PyProof.Rows L2
set_option autoImplicit false
section
variable {X : Cx} {p : Par} {W : WX} {lk : List Addr} {L : Lk} {σ : L2.St} {H : Hp} {e : Env} {st : Stk} {ws : List Wk} {a b c : Expr} {pos : Pos} {f g h : M D}
def whileM (t : M Bool) (body : M Fw) : Nat → M Fw
  | 0 => .bad
  | n + 1 => t.bind fun k => if k then body.bind fun fl => match fl with
      | .next => whileM t body n
      | .cont => whileM t body n
      | .brk => .ret .next
      | .ret d => .ret (.ret d)
    else .ret .next
theorem ps_whileM {t : M Bool} {body : List Stmt} {fb : M Fw} (n : Nat) (hp : PassesOwn (model X.prog X.w) X.A X.env X.xe) (hc : PT X c (tT X p W t)) (hb : PSs X body (tS X p W fb)) : PS X (.While c body [] pos) (tS X p W (whileM t fb n)) :=
  PSmono (ps_while hp hc hb) fun D σ H ⟨lk, L, e, st, g, q⟩ => by
    refine ⟨fun m σ H => ∃ e, Gd X p lk L σ H e st [] ∧ (whileM t fb m e).run (FwK X p lk L st D) (XS X p W lk L st), ⟨n, e, g, q⟩, ?_⟩
    rintro m σ H ⟨e, g, q⟩
    cases m with
    | zero => exact False.elim q
    | succ m =>
      refine ⟨lk, L, e, st, [], g, Res.run_mono (run_bind (show ((t.bind _) e).run _ _ from q)) (fun k e1 q H1 g1 => ?_) XS.xw⟩
      cases k with
      | false =>
        rw [if_neg Bool.false_ne_true] at q ⊢
        exact q σ H1 g1
      | true =>
        rw [if_pos rfl] at q ⊢
        refine ⟨fun σ H => ∃ e, Gd X p lk L σ H e st [] ∧ (whileM t fb m e).run (FwK X p lk L st D) (XS X p W lk L st), fun σ' H' z => ⟨m, Nat.lt_succ_self m, z⟩, lk, L, e1, st, g1, ?_⟩
        refine Res.run_mono (run_bind q) (fun fl e2 q => ?_) fun _ _ _ z => z
        cases fl with
        | next => exact fun σ' H' g' => ⟨e2, g', q⟩
        | cont => exact fun σ' H' g' => ⟨e2, g', q⟩
        | brk => exact q
        | ret d => exact q
/-! ### negative ints, int(..) -/
def negD : D → Option Nw
  | .int i => some (.sc (.int (-i)))
  | _ => none
theorem pe_negM (ha : PE X a (tW X p W f)) : PE X (.UnaryOp .USub a pos) (tV X p W (f.bind fun d => newM (negD d))) :=
  PEmono (pe_un un_neg ha) fun σ H Q q => tR_mono (tR_bind q) fun lk L e st ws d q v H1 g1 => by
    obtain ⟨r, h1, h2⟩ := newM_run q g1.dropW
    cases d <;> simp only [negD, reduceCtorEq, Option.some.injEq] at h1
    subst h1
    cases Wr_int (g1.wr List.mem_cons_self)
    obtain ⟨v, hv, q⟩ := h2
    cases hv
    exact ⟨_, rfl, q⟩
def intD : List D → Option Nw
  | [.int i] => some (.sc (.int i))
  | [.bl k] => some (.sc (.int (if k then 1 else 0)))
  | _ => none
theorem cn_int : CallN X (.type "int") intD := .of call_int1 fun xs H Q ds n hl hw ho q => by
  unfold intD at ho
  split at ho
  · rename_i i
    cases ho
    obtain ⟨v, rfl⟩ := len1 hl
    cases Wr_int (hw (v, .int i) (by simp))
    obtain ⟨v, hv, q⟩ := q
    cases hv
    exact .inl ⟨i, rfl, q⟩
  · rename_i k
    cases ho
    obtain ⟨v, rfl⟩ := len1 hl
    cases Wr_bl (hw (v, .bl k) (by simp))
    obtain ⟨v, hv, q⟩ := q
    cases hv
    exact .inr ⟨k, rfl, q⟩
  · cases ho
end
end DG

set_option Elab.async false
set_option linter.all false
set_option maxHeartbeats 4000000
/-! DHd: zip of texts. -/
namespace DG
open PySem PySem.Spec PyProof.Rows L2
set_option autoImplicit false
def ItzS (x y : Str) : It :=
  ⟨fun i _ => i < x.cps.size ∧ i < y.cps.size, fun i H v H' => ∃ T c d, v = .ref T ∧ H T = none ∧ x.cps[i]? = some c ∧ y.cps[i]? = some d ∧ H' = upd H T (.tup [.str ⟨#[c]⟩, .str ⟨#[d]⟩]), fun i _ => i = min x.cps.size y.cps.size⟩
theorem turn_zipS {P : Program} {w : World} {K : PySem.W.Frag} {elts : List Expr} {kk : Nat} {tpos : Pos} {x y : Str} {tx ty : Tok} {z TI TO i1 i2 : Addr} (S : ZipSep2 z TI TO i1 i2 [i1] [i2]) :
    Turn P w K (.Tuple elts kk tpos) (ItzS x y) [z, TI, TO, i1, i2] z (fun i h => IsZip h z TI TO .none ∧ IsTupOf2 h TI (.ref i1) (.ref i2) ∧ (∃ a1 a2, IsTupOf2 h TO a1 a2) ∧ h.IsStrIter i1 (strIterType x) x tx i ∧ h.IsStrIter i2 (strIterType y) y ty i) where
  mem := by simp
  obj := fun i h st c hc => by
    obtain ⟨hz, hTI, ⟨a, b, hTO⟩, ⟨o1, e1, _, d1⟩, ⟨o2, e2, _, d2⟩⟩ := st
    have e' : c = z ∨ c = TI ∨ c = TO ∨ c = i1 ∨ c = i2 := by simpa using hc
    rcases e' with q | q | q | q | q
    · rw [q]; exact ⟨_, hz, fun v q => nomatch q⟩
    · rw [q]; exact ⟨_, hTI, fun v q => nomatch q⟩
    · rw [q]; exact ⟨_, hTO, fun v q => nomatch q⟩
    · rw [q]; exact ⟨o1, e1, fun v q => by rw [d1] at q; cases q⟩
    · rw [q]; exact ⟨o2, e2, fun v q => by rw [d2] at q; cases q⟩
  keep := fun i h h' st k => by
    obtain ⟨hz, hTI, ⟨a, b, hTO⟩, ⟨o1, e1, c1, d1⟩, ⟨o2, e2, c2, d2⟩⟩ := st
    exact ⟨k z (by simp) _ hz, k TI (by simp) _ hTI, ⟨a, b, k TO (by simp) _ hTO⟩, ⟨o1, k i1 (by simp) _ e1, c1, d1⟩, ⟨o2, k i2 (by simp) _ e2, c2, d2⟩⟩
  item := by
    intro X hP hw hK hc i pins s σ H E I hf st hg
    subst hP hw hK
    have W := WalksT.zipD2 (prog := X.prog) (w := X.w) (A := X.A) S (Draws.text (show X.A.in1.handled = none from I.ok.hd hc) i1 x tx) (Draws.text (show X.A.in1.handled = none from I.ok.hd hc) i2 y ty)
    refine W.item i s _ _ (by have := hg.1; have := hg.2; omega) st fun T vals h' tk hp hle hT hm hk => ?_
    obtain ⟨x1, x2, ⟨c, u1, hc1, rfl⟩, ⟨d, u2, hd1, rfl⟩, rfl⟩ := hp
    refine ⟨_, rfl, W.go elts kk tpos i T { s with heap := h', toks := tk } _ _ hm fun h'' st'' hk'' => ?_⟩
    have hne : T ∉ [z, TO, i1, i2] := W.apart i T h' hm
    have hT2 : h''.IsTuple T #[.str ⟨#[c]⟩ u1, .str ⟨#[d]⟩ u2] := hT.at fun o e => hk'' T o hne e
    have new : ObjOk X.prog X.w (upd H T (.tup [.str ⟨#[c]⟩, .str ⟨#[d]⟩])) h'' T (.tup [.str ⟨#[c]⟩, .str ⟨#[d]⟩]) := by
      obtain ⟨o, e, hc', n, hd'⟩ := hT2
      exact ⟨by show 2 ≤ sizeLine; decide, [.str ⟨#[c]⟩ u1, .str ⟨#[d]⟩ u2], .cons ⟨u1, rfl⟩ (.cons ⟨u2, rfl⟩ .nil), ⟨o, e, hc', n, hd'⟩⟩
    have sub : ∀ b : Addr, b ∉ [z, TI, TO, i1, i2] → b ∉ [z, TO, i1, i2] := fun b hb hm => hb (by simp only [List.mem_cons, List.not_mem_nil, or_false] at hm ⊢; rcases hm with q | q | q | q <;> simp [q])
    have I1 : Inv X pins σ (upd H T (.tup [.str ⟨#[c]⟩, .str ⟨#[d]⟩])) { s with heap := h'', toks := tk } :=
      I.turnedNew (t' := tk) (ch := [z, TI, TO, i1, i2]) (fun b o hb q => hk'' b o (sub b hb) (hk b o (sub b hb) q)) hf hle new
    refine ⟨.ref T, _, I1, rfl, ⟨T, c, d, rfl, I.hok.fresh hle, hc1, hd1, rfl⟩, st'', fun b hb => ?_⟩
    have hlt : b < s.heap.objs.size := by
      obtain ⟨hz, hTI, ⟨a, b', hTO⟩, ⟨o1, e1, _⟩, ⟨o2, e2, _⟩⟩ := st
      have e' : b = z ∨ b = TI ∨ b = TO ∨ b = i1 ∨ b = i2 := by simpa using hb
      rcases e' with q | q | q | q | q
      · rw [q]; exact Heap.lt_size hz
      · rw [q]; exact Heap.lt_size hTI
      · rw [q]; exact Heap.lt_size hTO
      · rw [q]; exact Heap.lt_size e1
      · rw [q]; exact Heap.lt_size e2
    rw [upd_ne (Nat.ne_of_lt (Nat.lt_of_lt_of_le hlt hle))]
    exact (hf b hb).1
  done := by
    intro X hP hw hK hc i pins s σ H E I hf st hg
    subst hP hw hK
    have sub : ∀ b : Addr, b ∉ [z, TI, TO, i1, i2] → b ∉ [z, TO, i1, i2] := fun b hb hm => hb (by simp only [List.mem_cons, List.not_mem_nil, or_false] at hm ⊢; rcases hm with q | q | q | q <;> simp [q])
    have W := WalksT.zipD2 (prog := X.prog) (w := X.w) (A := X.A) S (Draws.text (show X.A.in1.handled = none from I.ok.hd hc) i1 x tx) (Draws.text (show X.A.in1.handled = none from I.ok.hd hc) i2 y ty)
    have hg : i = min x.cps.size y.cps.size := hg
    subst hg
    exact W.done s _ _ st fun h' tk hk => ⟨rfl, I.turnedL (t' := tk) (ch := [z, TI, TO, i1, i2]) (fun b o hb q => hk b o (sub b hb) q) hf⟩
  self := fun A i s Q E st h => wpAny_pyIter_zip st.1 h
def iZipS (ta : TA) : TI := fun σ H R => ta σ H fun vs H1 => ∃ x y, vs = [.str x, .str y] ∧ R (ItzS x y) H1
theorem pi_zipS {X : Cx} {e e2 : Expr} {ta : TA} {p pos tpos : Pos} {elts : List Expr} {kk : Nat} (hg : Gl X "zip") (hm : X.mg "zip" = none) (ha : PA X [e, e2] ta)
    (hs : starEach [e, e2] X.env = (false, eval e X.env) :: starEach [e2] X.env) (hpl : (backTo pos (starEach [e2] X.env)).any (·.1) = false) :
    PI X (.Tuple elts kk tpos) (.Call (.Name "zip" p) [e, e2] [] pos) (iZipS ta) := by
  refine ⟨fun pins s σ H R I h => ?_⟩
  refine Call_ (ld_blt I hg hm PyProof.Rows.boot_zip (PyProof.Rows.callWith_type1 (thn (ha.run pos pins s σ H _ I h) fun us s1 ⟨vs, H1, I1, r1, q1⟩ => ?_) hs hpl))
  obtain ⟨x, y, ex, q⟩ := q1
  subst ex
  cases r1 with
  | cons r rr =>
    cases rr with
    | cons r' rr =>
      cases rr
      obtain ⟨tx, rfl⟩ := r
      obtain ⟨ty, rfl⟩ := r'
      refine zip_begins2 (begins_text x tx) (begins_text y ty) trivial trivial fun h' hz hTI hTO h1 h2 hsz hk => wpAny_pyIter_zip hz ?_
      have I2 : Inv X pins σ H1 { s1 with heap := h' } := I1.kept (t' := s1.toks) hk
      have n0 : s1.heap.objs.size ≠ s1.heap.objs.size + 1 := by omega
      refine ⟨s1.heap.objs.size + 4, [s1.heap.objs.size + 4, s1.heap.objs.size + 2, s1.heap.objs.size + 3, s1.heap.objs.size, s1.heap.objs.size + 1], _, _, H1, rfl, I2, turn_zipS (tx := tx) (ty := ty) ⟨?_, ?_, ?_, ?_, ?_, ?_, ?_, ?_, ?_, ?_, ?_, ?_, ?_⟩, ⟨hz, hTI, ⟨_, _, hTO⟩, ⟨_, h1, rfl, rfl⟩, ⟨_, h2, rfl, rfl⟩⟩, fun c hcm => ?_, q⟩
      rotate_right
      · have e' : c = s1.heap.objs.size + 4 ∨ c = s1.heap.objs.size + 2 ∨ c = s1.heap.objs.size + 3 ∨ c = s1.heap.objs.size ∨ c = s1.heap.objs.size + 1 := by simpa using hcm
        have hle : s1.heap.objs.size ≤ c := by
          rcases e' with z | z | z | z | z
          · rw [z]; exact Nat.le_add_right _ _
          · rw [z]; exact Nat.le_add_right _ _
          · rw [z]; exact Nat.le_add_right _ _
          · rw [z]; exact Nat.le_refl _
          · rw [z]; exact Nat.le_add_right _ _
        exact I1.fpOk hle (I1.hok.fresh hle)
      all_goals (generalize s1.heap.objs.size = n; simp)
section
variable {X : Cx} {p : Par} {W : WX} {lk : List Addr} {L : Lk} {σ : L2.St} {H : Hp} {e : Env} {st : Stk} {ws : List Wk} {a b c : Expr} {pos : Pos} {f g h : M D}
theorem PI.or {tg i : Expr} {t t' : TI} (h : PI X tg i t) (h' : PI X tg i t') : PI X tg i (fun σ H R => t σ H R ∨ t' σ H R) := ⟨fun pins s σ H R I q => q.elim (h.run pins s σ H R I) (h'.run pins s σ H R I)⟩
def chars (x : Str) : List D := x.cps.toList.map fun c => .str ⟨#[c]⟩
theorem chars_get (x : Str) (i : Nat) : (chars x)[i]? = x.cps[i]?.map fun c => .str ⟨#[c]⟩ := by
  unfold chars
  rw [List.getElem?_map, Array.getElem?_toList]
theorem zip_len : ∀ as bs : List D, (zipD as bs).length = min as.length bs.length
  | [], bs => by cases bs <;> simp [zipD]
  | a :: as, [] => by simp [zipD]
  | a :: as, b :: bs => by simp [zipD, zip_len as bs]
theorem itD_zipS {x y : Str} : ItD X p lk L (ItzS x y) (zipD (chars x) (chars y)) st := fun L' _ i σ H e front ws g => by
  rw [zipD_get, chars_get, chars_get]
  refine ⟨fun d hd => ?_, fun hd hi => ?_⟩
  · cases hx : x.cps[i]? with
    | none => rw [hx] at hd; cases hd
    | some c =>
      cases hy : y.cps[i]? with
      | none => rw [hx, hy] at hd; cases hd
      | some c' =>
        rw [hx, hy] at hd
        cases hd
        refine ⟨⟨(Array.getElem?_eq_some_iff.mp hx).1, (Array.getElem?_eq_some_iff.mp hy).1⟩, fun v H' ⟨T, c1, c2, h1, h2, h3, h4, h5⟩ => ?_⟩
        rw [hx] at h3
        rw [hy] at h4
        cases h3
        cases h4
        subst h1 h5
        exact Gd.mkTup (front := [(.str ⟨#[c]⟩, .str ⟨#[c]⟩), (.str ⟨#[c']⟩, .str ⟨#[c']⟩)]) ((g.push fun z G _ _ => .str _).push fun z G _ _ => .str _) h2
  · rw [zip_len] at hi
    show i = min x.cps.size y.cps.size
    rw [hi]
    simp [chars]
def zipL (io : Bool) (x y : D) : M (List D) := match x, y with
  | .str x, .str y => .ret (zipD (chars x) (chars y))
  | x, y => zipLL io x y
theorem pi_zipA' {io : Bool} {p1 tpos : Pos} {elts : List Expr} {kk : Nat} (hg : Gl X "zip") (hm : X.mg "zip" = none) (hio : io = false → p.O = []) (ha : PE X a (tV X p W f)) (hb : PE X b (tV X p W g)) (hs : starEach [a, b] X.env = (false, eval a X.env) :: starEach [b] X.env) (hs2 : starEach [b] X.env = [(false, eval b X.env)])
    (hpl : (backTo pos (starEach [b] X.env)).any (·.1) = false) : PI X (.Tuple elts kk tpos) (.Call (.Name "zip" p1) [a, b] [] pos) (tI X p W (f.bind fun x => g.bind fun y => zipL io x y)) :=
  PImono (PI.or (pi_zipS hg hm (pa_cons ha (pa_cons hb pa_nil hs2) hs) hs hpl) (pi_zipM hg hm hio ha hb hs hs2 hpl)) fun σ H R q => by
    obtain ⟨lk, L, e, st, ws, gd, q⟩ := q
    unfold M.bind at q
    cases hf : f e with
    | bad => rw [hf] at q; exact False.elim q
    | exc c fs e' =>
      rw [hf] at q
      refine .inr ⟨lk, L, e, st, ws, gd, ?_⟩
      unfold M.bind
      rw [hf]; exact q
    | ok x e1 =>
      rw [hf] at q
      dsimp only at q
      cases hge : g e1 with
      | bad => rw [hge] at q; exact False.elim q
      | exc c fs e' =>
        rw [hge] at q
        refine .inr ⟨lk, L, e, st, ws, gd, ?_⟩
        unfold M.bind
        rw [hf]
        dsimp only
        rw [hge]; exact q
      | ok y e2 =>
        rw [hge] at q
        dsimp only at q
        have other : zipL io x y = zipLL io x y → tI X p W (f.bind fun x => g.bind fun y => zipLL io x y) σ H R := fun hz => (⟨lk, L, e, st, ws, gd, by
          unfold M.bind
          rw [hf]
          dsimp only
          rw [hge]
          dsimp only
          rw [← hz]
          exact q⟩ : tI X p W (f.bind fun x => g.bind fun y => zipLL io x y) σ H R)
        cases x with
        | str x =>
          cases y with
          | str y =>
            refine .inl ⟨lk, L, e, st, ws, gd, ?_⟩
            rw [hf]
            intro v H1 g1
            refine ⟨lk, L, e1, (v, .str x) :: st, ws, g1, ?_⟩
            rw [hge]
            intro u H2 g2
            have hv : v = .str x ∧ u = .str y := by
              obtain ⟨S, G, A, B, g⟩ := g2
              cases hs : g.stk with
              | cons r rr =>
                cases r
                cases rr with
                | cons r2 _ => cases r2; exact ⟨rfl, rfl⟩
            obtain ⟨rfl, rfl⟩ := hv
            exact ⟨x, y, rfl, q _ H2 [] L .refl g2.drop.drop itD_zipS⟩
          | _ => exact .inr (other rfl)
        | _ => exact .inr (other rfl)
end
end DG

set_option Elab.async false
set_option linter.all false
set_option maxHeartbeats 4000000
/-! DIb: places: steps further in, freezing there; dicts walked by their keys. -/
namespace DG
open PySem PySem.Spec PyProof.Rows L2
set_option autoImplicit false
theorem VP.snoc {H : Hp} {s : Stp} {y : V} : ∀ {π : Pth} {v x : V}, VP H v π x → VS H x s y → VP H v (π ++ [s]) y
  | [], v, x, h, k => by
    have h : x = v := h
    subst h; exact ⟨y, k, rfl⟩
  | _ :: π, v, x, ⟨w, h1, h2⟩, k => ⟨w, h1, VP.snoc (π := π) h2 k⟩
theorem getP_snoc {s : Stp} {c : D} : ∀ {π : Pth} {r d : D}, getP r π = some d → getS d s = some c → getP r (π ++ [s]) = some c
  | [], r, d, h, k => by cases h; show (getS r s).bind _ = _; rw [k]; rfl
  | t :: π, r, d, h, k => by
    unfold getP at h
    cases q : getS r t with
    | none => rw [q] at h; cases h
    | some x =>
      rw [q] at h
      show (getS r t).bind _ = _
      rw [q]
      exact getP_snoc (π := π) h k
theorem atP_snoc {q : Nat × Pth} {e : Env} {s : Stp} {d c : D} (h : atP q e = some d) (k : getS d s = some c) : atP (q.1, q.2 ++ [s]) e = some c := by
  unfold atP at h ⊢
  cases he : e[q.1]? with
  | none => rw [he] at h; cases h
  | some o =>
    cases o with
    | none => rw [he] at h; cases h
    | some r => rw [he] at h; exact getP_snoc h k
section
variable {X : Cx} {p : Par} {W : WX} {lk : List Addr} {L : Lk} {σ : L2.St} {H : Hp} {e : Env} {st : Stk} {ws : List Wk} {a b c : Expr} {pos : Pos} {f g h : M D} {fp : M (Nat × Pth)}
/-- what stands at a place -/
theorem Gd.atRep {q : Nat × Pth} {d : D} {x : V} (g : Gd X p lk L σ H e st ws) (h : atP q e = some d) (hx : PlV σ H q.1 q.2 x) : ∃ z G A0, z.K = X.K ∧ z.gm = X.mg ∧ Rp z G (.v x d) A0 ∧ (∀ a u, Rd G a u → Rd H a u) := by
  obtain ⟨r, he, hp, hs⟩ := atP_of h
  obtain ⟨S, G, A, B, g⟩ := g
  obtain ⟨v, A1, A2, h1, h2, h3, h4⟩ := g.env.split he
  obtain ⟨v0, A0, A1r, k1, k2, k3, k4⟩ := h2.focP hp
  have hxv : x = v0 := by
    obtain ⟨v', e1, e2⟩ := hx
    rw [h1] at e1; cases e1
    rw [g.hL] at e2
    exact e2.inj (lockAll_vp g.lkd k1)
  subst hxv
  exact ⟨_, G, A0, rfl, rfl, k2, fun a u r => by rw [g.hL]; exact lockAll_rd g.lkd r⟩
/-- the marks at a place are changed -/
theorem Gd.markAt {q : Nat × Pth} {d d' : D} {x : V} (nw : Stk) (g : Gd X p lk L σ H e st ws) (h : atP q e = some d) (hx : PlV σ H q.1 q.2 x)
    (mk : ∀ (S : Addr → Prop) (G : Hp) (A0 : List Addr), (∀ a u, Rd G a u → Rd H a u) → Rp (zo X p S lk) G (.v x d) A0 → ∃ C A0', A0.Perm (C ++ A0') ∧ ((∀ a ∈ C, p.H0 a = none ∨ a ∈ p.O) → Rp (zo X p (fun a => S a ∨ a ∈ C) lk) G (.v x d') A0' ∧ RpS (zo X p (fun a => S a ∨ a ∈ C) lk) G nw [])) :
    Gd X p lk L σ H (setAt q d' e) (nw ++ st) ws := by
  obtain ⟨r, he, hp, hs⟩ := atP_of h
  obtain ⟨S, G, A, B, g⟩ := g
  obtain ⟨v, A1, A2, h1, h2, h3, h4⟩ := g.env.split he
  obtain ⟨v0, A0, A1r, k1, k2, k3, k4⟩ := h2.focP hp
  have hxv : x = v0 := by
    obtain ⟨v', e1, e2⟩ := hx
    rw [h1] at e1; cases e1
    rw [g.hL] at e2
    exact e2.inj (lockAll_vp g.lkd k1)
  subst hxv
  obtain ⟨C, A0', c1, c2⟩ := mk S G A0 (fun a u r => by rw [g.hL]; exact lockAll_rd g.lkd r) k2
  let S' : Addr → Prop := fun a => S a ∨ a ∈ C
  have zl : ZLe (zo X p S lk) (zo X p S' lk) := ⟨rfl, rfl, fun a h => .inl h, fun _ h => h, fun _ _ h => h, rfl⟩
  -- all the addresses
  have hall : (A ++ B).Perm (C ++ (A0' ++ (A1r ++ (A2 ++ B)))) := by
    refine (List.Perm.append_right _ (h3.trans (List.Perm.append_right _ (k3.trans (List.Perm.append_right _ c1))))).trans ?_
    exact List.perm_iff_count.mpr fun x => by simp only [List.count_append]; omega
  have hnd := hall.nodup_iff.mp g.nd
  have mC : ∀ b ∈ C, b ∈ A ++ B := fun b hb => hall.mem_iff.mpr (List.mem_append_left _ hb)
  obtain ⟨m1, m2⟩ := c2 fun b hb => g.ow b (mC b hb)
  obtain ⟨A1', q1, q2, _⟩ := k4 (zo X p S' lk) G d' A0' zl .refl (fun _ _ => rfl) m1
  have r2 : RpE (zo X p S' lk) G σ (e.set q.1 none) A2 := h4.mono zl .refl fun _ _ => rfl
  have hlen : q.1 < e.length := (List.getElem?_eq_some_iff.mp he).1
  obtain ⟨A3, t1, t2⟩ := r2.put (List.getElem?_set_self hlen) q1
  rw [List.set_set] at t1
  have e1 : σ.set q.1 (some v) = σ := by
    apply List.ext_getElem?
    intro j
    by_cases hj : j = q.1
    · subst hj; rw [List.getElem?_set_self (List.getElem?_eq_some_iff.mp h1).1, h1]
    · rw [List.getElem?_set_ne (Ne.symm hj)]
  rw [e1] at t1
  have p3 : (A3 ++ B).Perm (A0' ++ (A1r ++ (A2 ++ B))) := by
    refine (List.Perm.append_right _ (t2.trans (List.Perm.append_right _ q2))).trans ?_
    exact List.perm_iff_count.mpr fun x => by simp only [List.count_append]; omega
  have sub : ∀ b ∈ A3 ++ B, b ∈ A ++ B := fun b hb => hall.mem_iff.mpr (List.mem_append_right _ (p3.mem_iff.mp hb))
  have dis : ∀ b ∈ A3 ++ B, b ∉ C := fun b hb hc => (List.nodup_append.mp hnd).2.2 b hc b (p3.mem_iff.mp hb) rfl
  rw [hs]
  refine ⟨S', G, A3, B, ⟨g.ok, g.hL, g.lkd, fun a od q => (g.lkz a od q).elim (fun z => .inl (.inl z)) .inr, g.lke, t1, ?_, g.wk, p3.nodup_iff.mpr (List.nodup_append.mp hnd).2.1,
    fun b hb => ⟨fun z => z.elim (g.dj b (sub b hb)).1 (dis b hb), (g.dj b (sub b hb)).2⟩, fun b hb => g.ow b (sub b hb), fun a ha => .inl (g.s0 a ha), fun a ha => ?_, g.fr, g.oo, g.pin, g.nf⟩⟩
  · have := m2.append (g.stk.mono zl .refl fun _ _ => rfl)
    exact this
  · rcases ha with ha | ha
    · exact g.sd a ha
    · refine ⟨(g.ow a (mC a ha)).elim (fun z => .inr (.inl z)) fun z => .inr (.inr z), ?_⟩
      rcases List.mem_append.mp (mC a ha) with z | z
      · obtain ⟨u, hu, _⟩ := g.env.dom a z; exact ⟨u, hu⟩
      · obtain ⟨u, hu, _⟩ := g.stk.dom a z; exact ⟨u, hu⟩
theorem Rp.share {z : Zo} {H : Hp} {x : V} {d : D} {A : List Addr} {io : Bool} {S' : Addr → Prop} (r : Rp z H (.v x d) A) (hl : allF noLk d = true) (hS : ∀ a, z.S a → S' a) (hC : ∀ a ∈ A, S' a) (hio : io = false → ∀ a ∈ A, z.H0 a = none) :
    Rp ⟨z.K, z.gm, S', z.R, z.H0, z.lk⟩ H (.v x (share io d)) [] :=
  r.remark (P := noLk) (m := shF io) rfl rfl hl fun f a hf o hu hA => by
    cases f with
    | own =>
      have ha : a ∈ A := hA a (by simp [FlA])
      cases io with
      | true => exact ⟨rfl, hC a ha⟩
      | false => exact ⟨rfl, hC a ha, hio rfl a ha⟩
    | fr => exact ⟨rfl, hS a o.1, o.2⟩
    | sh => exact ⟨rfl, hS a o⟩
    | ro => exact ⟨rfl, o⟩
    | lk => simp [noLk] at hf
theorem Gd.shareAt {io : Bool} {q : Nat × Pth} {d : D} {x : V} (g : Gd X p lk L σ H e st ws) (h : atP q e = some d) (hx : PlV σ H q.1 q.2 x) (hl : allF noLk d = true) (hio : io = false → p.O = []) : Gd X p lk L σ H (setAt q (share io d) e) ((x, share io d) :: st) ws :=
  g.markAt [(x, share io d)] h hx fun S G A0 _ r => ⟨A0, [], by simp, fun hc => by
    have r2 : Rp (zo X p (fun a => S a ∨ a ∈ A0) lk) G (.v x (share io d)) [] := Rp.share (S' := fun a => S a ∨ a ∈ A0) r hl (fun a h => .inl h) (fun a h => .inr h) fun hi a ha => by
      rcases hc a ha with z | z
      · exact z
      · rw [hio hi] at z; cases z
    exact ⟨r2, RpS.cons (A := []) (B := []) r2 .nil⟩⟩
def shM (io : Bool) (fp : M (Nat × Pth)) : M D := fp.bind fun q => fun e => match atP q e with
  | some d => if allF noLk d then .ok (share io d) (setAt q (share io d) e) else .bad
  | none => .bad
theorem pe_plH {io : Bool} (hio : io = false → p.O = []) (h : PE X a (tP X p W fp)) : PE X a (tV X p W (shM io fp)) :=
  PEmono h fun σ H Q q => tR_mono (tR_bind q) fun lk L e st ws pl q x H1 g => by
    cases h1 : atP pl e with
    | none => rw [h1] at q; exact False.elim q
    | some d =>
      rw [h1] at q
      dsimp only at q
      by_cases hl : allF noLk d = true
      · rw [if_pos hl] at q
        exact q x H1 (g.shareAt h1 (g.pl List.mem_cons_self) hl hio).dropW
      · rw [if_neg hl] at q; exact False.elim q
/-- a place where nothing weak is pending: it may write on its way -/
def tP0 (X : Kx) (p : Par) (W : WX) (f : M (Nat × Pth)) : TE := fun σ H Q => ∃ lk L e st, Gd X p lk L σ H e st [] ∧ (f e).run (fun q e' => ∀ x H', Gd X p lk L σ H' e' st [.p q.1 q.2 x] → Q x H') (XW X p W lk L σ st)
theorem pe_p0 (h : PE X a (tP X p W fp)) : PE X a (tP0 X p W fp) := PEmono h fun σ H Q ⟨lk, L, e, st, g, q⟩ => ⟨lk, L, e, st, [], g, q⟩
/-! ### a step further in -/
def stpOf : D → D → Option Stp
  | .lst _ ds, .int i => (ixN ds.length i).map .ix
  | .tup ds, .int i => (ixN ds.length i).map .ix
  | .dk _ _, .str x => some (.key (.inr x))
  | .dk _ _, .int x => some (.key (.inl x))
  | _, _ => none
def subPM (fp : M (Nat × Pth)) (g : M D) : M (Nat × Pth) := fp.bind fun q => g.bind fun k => fun e => match atP q e with
  | some d => (match stpOf d k with
    | some s => if (getS d s).isSome then .ok (q.1, q.2 ++ [s]) e else .bad
    | none => .bad)
  | none => .bad
theorem Gd.stepP {q : Nat × Pth} {d c : D} {s : Stp} {x : V} (g : Gd X p lk L σ H e st ws) (hm : .p q.1 q.2 x ∈ ws) (h : atP q e = some d) (hs : getS d s = some c) :
    ∃ z G A0 v, Rp z G (.v x d) A0 ∧ VS G x s v ∧ (∀ a u, Rd G a u → Rd H a u) ∧ Gd X p lk L σ H e st (.p q.1 (q.2 ++ [s]) v :: ws) := by
  obtain ⟨r, he, hp, _⟩ := atP_of h
  obtain ⟨S, G, A, B, g⟩ := g
  obtain ⟨v, A1, A2, h1, h2, h3, h4⟩ := g.env.split he
  obtain ⟨v0, A0, A1r, k1, k2, k3, k4⟩ := h2.focP hp
  obtain ⟨hn, v', e1, e2⟩ : q.1 ∈ p.nl ∧ PlV σ G q.1 q.2 x := g.wk _ hm
  rw [h1] at e1; cases e1
  obtain rfl := e2.inj k1
  obtain ⟨w, B0, B1, j1, j2, _, _⟩ := k2.focS hs
  exact ⟨_, G, A0, w, k2, j1, fun a u r => by rw [g.hL]; exact lockAll_rd g.lkd r, S, G, A, B, g.less g.env g.stk (fun w hw => (List.mem_cons.mp hw).elim (fun z => z ▸ ⟨hn, v, h1, e2.snoc j1⟩) (g.wk w)) ⟨[], .refl _⟩ g.pin⟩
theorem atI_ix {α : Type} {xs : List α} {i : Int} {n : Nat} {m : Nat} (h : ixN m i = some n) (hl : xs.length = m) : atI xs i = xs[n]? := by
  unfold atI
  rw [hl, h]; rfl
theorem pe_subP (hu : X.A.units + 1 < cLine) (ha : PE X a (tP X p W fp)) (hb : PE X b (tW X p W g)) (hs : PlainIx b) : PE X (.Subscript a b pos) (tP X p W (subPM fp g)) :=
  PEmono (pe_ix (ix_seq.or (ix_dict hu)) ha hb hs) fun σ H Q q => tR_mono (tR_bind q) fun lk L e st ws pl q x H1 g1 => by
    refine ⟨lk, L, e, st, .p pl.1 pl.2 x :: ws, g1, Res.run_mono (run_bind q) (fun k e2 q y H2 g2 => ?_) fun _ _ _ z => z⟩
    cases hat : atP pl e2 with
    | none => rw [hat] at q; exact False.elim q
    | some d =>
      rw [hat] at q
      dsimp only at q
      cases hst : stpOf d k with
      | none => rw [hst] at q; exact False.elim q
      | some s =>
        rw [hst] at q
        dsimp only at q
        cases hg : getS d s with
        | none => rw [hg] at q; exact False.elim q
        | some c =>
          rw [hg] at q
          have q : ∀ v H', Gd X p lk L σ H' e2 st (.p pl.1 (pl.2 ++ [s]) v :: ws) → Q v H' := q
          obtain ⟨z, G, A0, v, r, vs, rd, g3⟩ := g2.stepP (List.mem_cons_of_mem _ List.mem_cons_self) hat hg
          have fin : Q v H2 := q v H2 (g3.subW fun w hw => (List.mem_cons.mp hw).elim (fun z => z ▸ List.mem_cons_self) fun z => List.mem_cons_of_mem _ (List.mem_cons_of_mem _ (List.mem_cons_of_mem _ z)))
          have wy := g2.wr (v := y) (d := k) List.mem_cons_self
          cases d <;> cases k <;> simp only [stpOf, reduceCtorEq, Option.map_eq_some_iff, Option.some.injEq] at hst
          case lst.int f ds i =>
            obtain ⟨n, hn, rfl⟩ := hst
            cases Wr_int wy
            obtain ⟨a', xs, C, rfl, at0, o, rl, _⟩ := r.lst_inv
            obtain ⟨a2, xs2, e2, hr, hx⟩ := vs
            cases e2
            have : xs2 = xs := by
              rcases hr with hr | hr <;> cases rd_inj hr at0.rd (by intros; simp) (by intros; simp)
              rfl
            subst this
            exact .inl (.inl ⟨_, xs2, i, v, rfl, rfl, .inl (rd _ _ at0.rd), by rw [atI_ix hn rl.lenL]; exact hx, fin⟩)
          case tup.int ds i =>
            obtain ⟨n, hn, rfl⟩ := hst
            cases Wr_int wy
            obtain ⟨a', xs, rfl, t, rl⟩ := r.tup_inv
            obtain ⟨a2, xs2, e2, hr, hx⟩ := vs
            cases e2
            have t : Rd G a' (.tup xs) := t
            have : xs2 = xs := by
              rcases hr with hr | hr <;> cases rd_inj hr t (by intros; simp) (by intros; simp)
              rfl
            subst this
            exact .inl (.inr (.inl ⟨_, xs2, i, v, rfl, rfl, .inl (rd _ _ t), by rw [atI_ix hn rl.lenL]; exact hx, fin⟩))
          case dk.int f ks i =>
            subst hst
            cases Wr_int wy
            obtain ⟨a2, xs2, rfl, hr, hx⟩ := vs
            exact .inr ⟨a2, v, rfl, .inl ⟨xs2, .inl i, rd _ _ hr, rfl, by rw [valV_getA]; exact hx.symm⟩, fin⟩
          case dk.str f ks i =>
            subst hst
            cases Wr_str wy
            obtain ⟨a2, xs2, rfl, hr, hx⟩ := vs
            exact .inr ⟨a2, v, rfl, .inl ⟨xs2, .inr i, rd _ _ hr, rfl, by rw [valV_getA]; exact hx.symm⟩, fin⟩
/-! ### a dict is walked by its keys -/
def keyV : Key → D
  | .inl i => .int i
  | .inr x => .str x
theorem keyV_rp (z : Zo) (G : Hp) (k : Key) : Rp z G (.v (kV k) (keyV k)) [] := by cases k <;> constructor
theorem itD_keys {d : Addr} {o : Obj} {kvs : List (Key × V)} {f : Fl} (hH : ∀ {L' : Lk} {σ : L2.St} {H : Hp} {e : Env} {front : Stk} {ws : List Wk}, L'.lo = L.lo → Gd X p lk L' σ H e (front ++ (.ref d, .kd f kvs) :: st) ws → H d = some (.frz o (.dK kvs))) :
    ItD X p lk L (Itk d o kvs) ((kvs.map (·.1)).map keyV) ((.ref d, .kd f kvs) :: st) := fun L' hL i σ H e front ws g => by
  have hd := hH hL g
  rw [List.map_map, List.getElem?_map]
  cases hc : kvs[i]? with
  | none => exact ⟨fun d hd => (by cases hd), fun _ _ => ⟨hd, List.getElem?_eq_none_iff.mp hc⟩⟩
  | some kv =>
    refine ⟨fun d' hd' => ?_, fun z _ => (by cases z)⟩
    cases hd'
    refine ⟨⟨hd, (List.getElem?_eq_some_iff.mp hc).1⟩, fun y H' ⟨h1, k, v, h2, h3⟩ => ?_⟩
    subst h1 h3
    rw [hc] at h2
    cases h2
    exact g.push fun z G _ _ => keyV_rp z G _
abbrev rKeys (X : Cx) (R : It → Hp → Prop) : V → Hp → Prop := fun x H1 => ∃ d o, x = .ref d ∧ ((∃ kvs, H1 d = some (.frz o (.dK kvs)) ∧ R (Itk d o kvs) H1) ∨ ∃ kvs, H1 d = some (.frz o (.dT kvs)) ∧ R (Itkt d o kvs) H1)
/-- a dict that is seen is walked -/
theorem Gd.keys {x : V} {f : Fl} {kvs : List (Key × V)} {R : It → Hp → Prop} (g : Gd X p lk L σ H e ((x, .kd f kvs) :: st) ws)
    (q : ∀ J H' st' L', LkE X L L' → Gd X p lk L' σ H' e (st' ++ st) ws → ItD X p lk L' J ((kvs.map (·.1)).map keyV) (st' ++ st) → R J H') :
    rKeys X R x H ∨ ∃ d u, x = .ref d ∧ H d = some u ∧ Mut (some u) ∧ (NoFz X d → ∀ od, rKeys X R x (upd H d (.frz od u))) := by
  obtain ⟨d, rfl, h⟩ := g.lock
  rcases h with ⟨o, h⟩ | ⟨h1, h2, h3⟩
  · exact .inl ⟨d, o, rfl, .inl ⟨kvs, h rfl (front := []) g, q (Itk d o kvs) H [(.ref d, .kd f kvs)] L .refl g (itD_keys fun {L' σ H e front ws} hl g => h hl g)⟩⟩
  · refine .inr ⟨d, _, rfl, h1, trivial, fun hn od => ?_⟩
    obtain ⟨g2, h4⟩ := h3 od
    exact ⟨d, od, rfl, .inl ⟨kvs, upd_same, q (Itk d od kvs) _ [(.ref d, .kd f kvs)] _ (.one d od h2 hn) g2 (itD_keys fun {L' σ H e front ws} hl g => h4 hl g)⟩⟩
def shTop (io : Bool) : D → D
  | .dk f ks => .dk (shF io f) ks
  | d => d
def notLk : Fl → Bool | .lk => false | _ => true
/-- .. where it stands: what it holds stays as it is -/
def keysP (io : Bool) (fp : M (Nat × Pth)) : M (List D) := fp.bind fun q => fun e => match atP q e with
  | some (.dk f ks) => if noLk f then .ok ((ks.map (·.1)).map keyV) (setAt q (.dk (shF io f) ks) e) else .bad
  | _ => .bad
theorem Gd.viewP {io : Bool} {q : Nat × Pth} {f : Fl} {ks : List (Key × D)} {x : V} (g : Gd X p lk L σ H e st ws) (h : atP q e = some (.dk f ks)) (hx : PlV σ H q.1 q.2 x) (hl : noLk f = true) (hio : io = false → p.O = []) :
    ∃ kvs, kvs.map (·.1) = ks.map (·.1) ∧ Gd X p lk L σ H (setAt q (.dk (shF io f) ks) e) ((x, .kd (shF io f) kvs) :: st) ws := by
  obtain ⟨d, kvs0, rfl, hk0, hd⟩ : ∃ d kvs, x = .ref d ∧ kvs.map (·.1) = ks.map (·.1) ∧ Rd H d (.dK kvs) := by
    obtain ⟨z, G, A0, _, _, r, rd⟩ := g.atRep h hx
    obtain ⟨a, xs, B, rfl, at0, o, n, rl, _⟩ := r.dk_inv
    exact ⟨a, xs, rfl, rl.keysK, rd _ _ at0.rd⟩
  refine ⟨kvs0, hk0, g.markAt [(.ref d, .kd (shF io f) kvs0)] h hx fun S G A0 hrd r => ?_⟩
  obtain ⟨a, xs, B, e1, at0, o, n, rl, rfl⟩ := r.dk_inv
  cases e1
  have ek := rd_inj (hrd _ _ at0.rd) hd (by intros; simp) (by intros; simp)
  cases ek
  refine ⟨FlA f d, B, .refl _, fun hc => ?_⟩
  have zl : ZLe (zo X p S lk) (zo X p (fun a => S a ∨ a ∈ FlA f d) lk) := ⟨rfl, rfl, fun a h => .inl h, fun _ h => h, fun _ _ h => h, rfl⟩
  have key : FlA (shF io f) d = [] ∧ (∀ b, FlA (shF io f) b = []) ∧ FlOk (zo X p (fun a => S a ∨ a ∈ FlA f d) lk) d (shF io f) := by
    cases f with
    | own =>
      have hm : d ∈ FlA .own d := by simp [FlA]
      cases io with
      | true => exact ⟨rfl, fun _ => rfl, .inr hm⟩
      | false =>
        refine ⟨rfl, fun _ => rfl, .inr hm, ?_⟩
        rcases hc d hm with z | z
        · exact z
        · rw [hio rfl] at z; cases z
    | fr => exact ⟨rfl, fun _ => rfl, .inl o.1, o.2⟩
    | sh => exact ⟨rfl, fun _ => rfl, .inl o⟩
    | ro => exact ⟨rfl, fun _ => rfl, o⟩
    | lk => cases hl
  have at1 : At G (shF io f) d (.dK kvs0) := by
    have h1 := key.1
    have h2 := at0.rd
    generalize shF io f = f' at h1
    cases f' with
    | own => cases h1
    | lk => cases h1
    | fr => exact h2
    | sh => exact h2
    | ro => exact h2
  refine ⟨?_, RpS.cons (A := []) (B := []) (.kd key.2.1 at1.rd key.2.2) .nil⟩
  have := Rp.dk at1 key.2.2 n (rl.mono zl .refl fun _ _ => rfl)
  rw [key.1] at this
  exact this
theorem pi_keysP {tg : Expr} {io : Bool} (hio : io = false → p.O = []) (ha : PE X a (tP X p W fp)) : PI X tg a (tI X p W (keysP io fp)) :=
  PImono (pi_keys (pe_lockB ha)) fun σ H R q => tR_mono (tR_bind q) fun lk L e st ws pl q x H1 g => by
    cases h1 : atP pl e with
    | none => rw [h1] at q; exact False.elim q
    | some d =>
      rw [h1] at q
      cases d with
      | dk f ks =>
        dsimp only at q
        by_cases hl : noLk f = true
        · rw [if_pos hl] at q
          obtain ⟨kvs, hk, g2⟩ := g.viewP h1 (g.pl List.mem_cons_self) hl hio
          exact Gd.keys g2.dropW fun J H' st' L' hL g3 hJ => q J H' st' L' hL g3 (by rw [← hk]; exact hJ)
        · rw [if_neg hl] at q; exact False.elim q
      | _ => exact False.elim q
/-- a dict that was made for this -/
def keysV (io : Bool) (d : D) : M (List D) := match d with
  | .dk f ks => if allF noLk (.dk f ks) then .ret ((ks.map (·.1)).map keyV) else .bad
  | _ => .bad
theorem Gd.viewV {io : Bool} {f : Fl} {ks : List (Key × D)} {v : V} (g : Gd X p lk L σ H e ((v, .dk f ks) :: st) ws) (hl : allF noLk (.dk f ks) = true) (hio : io = false → p.O = []) :
    ∃ kvs, kvs.map (·.1) = ks.map (·.1) ∧ Gd X p lk L σ H e ((v, .kd (shF io f) kvs) :: st) ws := by
  obtain ⟨S, G, A, B, g⟩ := g.freeze hl hio
  cases hs : g.stk with
  | @cons _ _ A1 B1 r rr =>
    obtain ⟨a, xs, C, e1, at0, o, n, rl, rfl⟩ := Rp.dk_inv (show Rp _ _ (.v v (.dk (shF io f) (mapFK (shF io) ks))) A1 from r)
    have e1 : v = .ref a := e1
    subst e1
    have h0 : ∀ b, FlA (shF io f) b = [] := fun b => by
      simp only [allF, Bool.and_eq_true] at hl
      cases f <;> cases io <;> first | rfl | (simp [noLk] at hl)
    refine ⟨xs, by rw [rl.keysK, mapFK_keys], S, G, A, B1, g.less g.env (.cons (A := []) (.kd h0 at0.rd o) rr) g.wk ⟨FlA (shF io f) a ++ C, ?_⟩ g.pin⟩
    exact List.perm_iff_count.mpr fun x => by simp only [List.count_append]; omega
theorem pi_keysV {tg : Expr} {io : Bool} (hio : io = false → p.O = []) (ha : PE X a (tV X p W f)) : PI X tg a (tI X p W (f.bind (keysV io))) :=
  PImono (pi_keys (pe_lockB ha)) fun σ H R q => tR_mono (tR_bind q) fun lk L e st ws d q x H1 g => by
    cases d with
    | dk f' ks =>
      unfold keysV at q
      dsimp only at q
      by_cases hl : allF noLk (.dk f' ks) = true
      · rw [if_pos hl] at q
        obtain ⟨kvs, hk, g2⟩ := g.viewV hl hio
        exact Gd.keys g2 fun J H' st' L' hL g3 hJ => q J H' st' L' hL g3 (by rw [← hk]; exact hJ)
      · rw [if_neg hl] at q; exact False.elim q
    | _ => exact False.elim q
end
end DG

set_option Elab.async false
set_option linter.all false
set_option maxHeartbeats 4000000
/-! DIc: dicts and lists written where they stand. -/
namespace DG
open PySem PySem.Spec PyProof.Rows L2
set_option autoImplicit false
section
variable {X : Cx} {p : Par} {W : WX} {lk : List Addr} {L : Lk} {σ : L2.St} {H : Hp} {e : Env} {st : Stk} {ws : List Wk} {a b c : Expr} {pos : Pos} {f g h : M D} {fp : M (Nat × Pth)}
theorem Gd.dkW {st0 front : Stk} {q : Nat × Pth} {ks : List (Key × D)} {x : V} (g : Gd X p lk L σ H e (front ++ st0) ws) (h : atP q e = some (.dk .own ks)) (hx : PlV σ H q.1 q.2 x) (hw : ∀ w ∈ ws, w.imm = true) :
    ∃ a kvs, x = .ref a ∧ H a = some (.dK kvs) ∧ kvs.map (·.1) = ks.map (·.1) ∧ (ks.map (·.1)).Nodup ∧
      ∀ (kvs' : List (Key × V)) (ks' : List (Key × D)) (back : Stk), (ks'.map (·.1)).Nodup → (∀ (z : Zo) (G : Hp) (A B : List Addr), Rp z G (.k kvs ks) A → RpS z G front B → ∃ C A' B', Rp z G (.k kvs' ks') A' ∧ RpS z G back B' ∧ (A ++ B).Perm (C ++ (A' ++ B'))) →
        Gd X p lk L σ (upd H a (.dK kvs')) (setAt q (.dk .own ks') e) (back ++ st0) ws ∧ PlV σ (upd H a (.dK kvs')) q.1 q.2 (.ref a) := by
  obtain ⟨r, he, hp, hs⟩ := atP_of h
  obtain ⟨a, u, rfl, hH, hM, _, z, G, A0, B1, kK, kg, hlk, hG, r0, s0, nd, k⟩ := g.change he hp rfl hx hw
  obtain ⟨a', xs, C0, e1, at0, o, n, rl, eA⟩ := r0.dk_inv
  cases e1
  have hu : u = .dK xs := by
    have : G a = some (.dK xs) := at0
    rw [hG] at this; exact Option.some.inj this
  subst hu
  refine ⟨a, xs, rfl, hH, rl.keysK, n, fun xs' ks' back hn tr => ?_⟩
  rw [hs]
  subst eA
  have ha : a ∉ C0 ++ B1 := (List.nodup_cons.mp (show (a :: (C0 ++ B1)).Nodup from nd)).1
  obtain ⟨C, A', B', t1, t2, t3⟩ := tr z G C0 B1 rl s0
  refine k (.dK xs') (.dk .own ks') back C (a :: A') B' (fun G' hG' keep => ?_) ?_ (fun _ _ z => nomatch z)
  · have hA' : a ∉ A' := fun z => ha (t3.mem_iff.mpr (List.mem_append_right _ (List.mem_append_left _ z)))
    have hB' : a ∉ B' := fun z => ha (t3.mem_iff.mpr (List.mem_append_right _ (List.mem_append_right _ z)))
    exact ⟨Rp.dk (f := .own) hG' hlk hn (keep _ _ t1 hA'), t2.keep keep hB'⟩
  · show (a :: (C0 ++ B1)).Perm (C ++ (a :: (A' ++ B')))
    exact (List.Perm.cons a t3).trans List.perm_middle.symm
theorem Gd.dtW {st0 front : Stk} {q : Nat × Pth} {ks : List (List Key × D)} {x : V} (g : Gd X p lk L σ H e (front ++ st0) ws) (h : atP q e = some (.dt .own ks)) (hx : PlV σ H q.1 q.2 x) (hw : ∀ w ∈ ws, w.imm = true) :
    ∃ a kvs, x = .ref a ∧ H a = some (.dT kvs) ∧ kvs.map (·.1) = ks.map (·.1) ∧ (ks.map (·.1)).Nodup ∧
      ∀ (kvs' : List (List Key × V)) (ks' : List (List Key × D)) (back : Stk), (ks'.map (·.1)).Nodup → (∀ (z : Zo) (G : Hp) (A B : List Addr), Rp z G (.t kvs ks) A → RpS z G front B → ∃ C A' B', Rp z G (.t kvs' ks') A' ∧ RpS z G back B' ∧ (A ++ B).Perm (C ++ (A' ++ B'))) →
        Gd X p lk L σ (upd H a (.dT kvs')) (setAt q (.dt .own ks') e) (back ++ st0) ws ∧ PlV σ (upd H a (.dT kvs')) q.1 q.2 (.ref a) := by
  obtain ⟨r, he, hp, hs⟩ := atP_of h
  obtain ⟨a, u, rfl, hH, hM, _, z, G, A0, B1, kK, kg, hlk, hG, r0, s0, nd, k⟩ := g.change he hp rfl hx hw
  obtain ⟨a', xs, C0, e1, at0, o, n, rl, eA⟩ := r0.dt_inv
  cases e1
  have hu : u = .dT xs := by
    have : G a = some (.dT xs) := at0
    rw [hG] at this; exact Option.some.inj this
  subst hu
  refine ⟨a, xs, rfl, hH, rl.keysT, n, fun xs' ks' back hn tr => ?_⟩
  rw [hs]
  subst eA
  have ha : a ∉ C0 ++ B1 := (List.nodup_cons.mp (show (a :: (C0 ++ B1)).Nodup from nd)).1
  obtain ⟨C, A', B', t1, t2, t3⟩ := tr z G C0 B1 rl s0
  refine k (.dT xs') (.dt .own ks') back C (a :: A') B' (fun G' hG' keep => ?_) ?_ (fun _ _ z => nomatch z)
  · have hA' : a ∉ A' := fun z => ha (t3.mem_iff.mpr (List.mem_append_right _ (List.mem_append_left _ z)))
    have hB' : a ∉ B' := fun z => ha (t3.mem_iff.mpr (List.mem_append_right _ (List.mem_append_right _ z)))
    exact ⟨Rp.dt (f := .own) hG' hlk hn (keep _ _ t1 hA'), t2.keep keep hB'⟩
  · show (a :: (C0 ++ B1)).Perm (C ++ (a :: (A' ++ B')))
    exact (List.Perm.cons a t3).trans List.perm_middle.symm
theorem RpS.one {z : Zo} {H : Hp} {v : V} {d : D} {B : List Addr} (h : RpS z H [(v, d)] B) : Rp z H (.v v d) B := by
  cases h with
  | cons r rr => cases rr; rw [List.append_nil]; exact r
theorem trK {z : Zo} {G : Hp} {kvs : List (Key × V)} {ks : List (Key × D)} {y : V} {d : D} {k : Key} {A B : List Addr} (r : Rp z G (.k kvs ks) A) (s : RpS z G [(y, d)] B) : ∃ C A' B', Rp z G (.k (setA kvs k y) (setA ks k d)) A' ∧ RpS z G [] B' ∧ (A ++ B).Perm (C ++ (A' ++ B')) := by
  have ry := s.one
  have hs : (getA kvs k).isSome = (getA ks k).isSome := getA_isSome r.keysK k
  unfold setA
  rw [hs]
  cases q : getA ks k with
  | some d0 =>
    obtain ⟨v0, A0, A1, h1, h2, h3, h4⟩ := r.focK q
    obtain ⟨A', q1, q2⟩ := h4 z G y d B (.refl _) .refl (fun _ _ => rfl) ry
    refine ⟨A0, A', [], q1, .nil, ?_⟩
    refine (List.Perm.append_right _ h3).trans ?_
    refine List.Perm.trans ?_ (List.Perm.append_left _ (List.Perm.append_right _ q2.symm))
    exact List.perm_iff_count.mpr fun x => by simp only [List.count_append, List.count_nil]; omega
  | none =>
    refine ⟨[], A ++ B, [], r.appK ?_, .nil, by simp⟩
    have := Rp.kcons (k := k) ry .knil
    rw [List.append_nil] at this
    exact this
theorem trT {z : Zo} {G : Hp} {kvs : List (List Key × V)} {ks : List (List Key × D)} {y : V} {d : D} {k : List Key} {A B : List Addr} (r : Rp z G (.t kvs ks) A) (s : RpS z G [(y, d)] B) : ∃ C A' B', Rp z G (.t (setA kvs k y) (setA ks k d)) A' ∧ RpS z G [] B' ∧ (A ++ B).Perm (C ++ (A' ++ B')) := by
  have ry := s.one
  have hs : (getA kvs k).isSome = (getA ks k).isSome := getA_isSome r.keysT k
  unfold setA
  rw [hs]
  cases q : getA ks k with
  | some d0 =>
    obtain ⟨v0, A0, A1, h1, h2, h3, h4⟩ := r.focT q
    obtain ⟨A', q1, q2⟩ := h4 z G y d B (.refl _) .refl (fun _ _ => rfl) ry
    refine ⟨A0, A', [], q1, .nil, ?_⟩
    refine (List.Perm.append_right _ h3).trans ?_
    refine List.Perm.trans ?_ (List.Perm.append_left _ (List.Perm.append_right _ q2.symm))
    exact List.perm_iff_count.mpr fun x => by simp only [List.count_append, List.count_nil]; omega
  | none =>
    refine ⟨[], A ++ B, [], r.appT ?_, .nil, by simp⟩
    have := Rp.tcons (k := k) ry .tnil
    rw [List.append_nil] at this
    exact this
theorem trL {z : Zo} {G : Hp} {xs : List V} {ds : List D} {y : V} {d : D} {n : Nat} {A B : List Addr} (hn : n < ds.length) (r : Rp z G (.l xs ds) A) (s : RpS z G [(y, d)] B) : ∃ C A' B', Rp z G (.l (xs.set n y) (ds.set n d)) A' ∧ RpS z G [] B' ∧ (A ++ B).Perm (C ++ (A' ++ B')) := by
  have ry := s.one
  obtain ⟨v0, A0, A1, h1, h2, h3, h4⟩ := r.focL (List.getElem?_eq_getElem hn)
  obtain ⟨A', q1, q2⟩ := h4 z G y d B (.refl _) .refl (fun _ _ => rfl) ry
  refine ⟨A0, A', [], q1, .nil, ?_⟩
  refine (List.Perm.append_right _ h3).trans ?_
  refine List.Perm.trans ?_ (List.Perm.append_left _ (List.Perm.append_right _ q2.symm))
  exact List.perm_iff_count.mpr fun x => by simp only [List.count_append, List.count_nil]; omega
/-! ### o[k] = v -/
def stoE (q : Nat × Pth) (k v : D) (e : Env) : Option Env := match atP q e, k with
  | some (.lst .own ds), .int i => (ixN ds.length i).map fun n => setAt q (.lst .own (ds.set n v)) e
  | some (.dk .own ks), .str x => if ks.length < sizeLine then some (setAt q (.dk .own (setA ks (.inr x) v)) e) else none
  | some (.dk .own ks), .int x => if ks.length < sizeLine then some (setAt q (.dk .own (setA ks (.inl x) v)) e) else none
  | some (.dt .own ks), .tup ds => (match keysD ds with
    | some kk => if ks.length < sizeLine then some (setAt q (.dt .own (setA ks kk v)) e) else none
    | none => none)
  | _, _ => none
def optE (r : Option Env) : Res Fw := match r with
  | some e => .ok .next e
  | none => .bad
def stoM (fv : M D) (fp : M (Nat × Pth)) (fk : M D) : M Fw := fv.bind fun v => fp.bind fun q => fk.bind fun k => fun e => optE (stoE q k v e)
theorem ixN_lt {m : Nat} {i : Int} {n : Nat} (h : ixN m i = some n) : n < m := by
  unfold ixN at h
  split at h
  · split at h
    · cases h; omega
    · cases h
  · split at h
    · cases h; omega
    · cases h
theorem PSet.or {t t' : TSet} (h : PSet X t) (h' : PSet X t') : PSet X (fun o i v H Q => t o i v H Q ∨ t' o i v H Q) := fun pins s σ H o i v ov iv u Q I r1 r2 r3 q => q.elim (h pins s σ H o i v ov iv u Q I r1 r2 r3) (h' pins s σ H o i v ov iv u Q I r1 r2 r3)
theorem setA_same {κ : Type} [DecidableEq κ] {kvs : List (κ × V)} {ks : List (κ × D)} {k : κ} {y : V} (hk : kvs.map (·.1) = ks.map (·.1)) (hn : (ks.map (·.1)).Nodup) : putK kvs k y = setA kvs k y := putK_setA y (by rw [hk]; exact hn)
theorem Gd.sto {q : Nat × Pth} {dk d : D} {x y kv : V} {e' : Env} (g : Gd X p lk L σ H e ((y, d) :: st) (.v kv dk :: .p q.1 q.2 x :: ws)) (hw : ws = []) (h : stoE q dk d e = some e') {Q : Hp → Prop} (hq : ∀ H', Gd X p lk L σ H' e' st [] → Q H') :
    rSetL x kv y H Q ∨ rSetD x kv y H Q := by
  subst hw
  have wk := g.wr (v := kv) (d := dk) List.mem_cons_self
  have hx := g.pl (i := q.1) (π := q.2) (List.mem_cons_of_mem _ List.mem_cons_self)
  have g1 := g.subW (ws' := []) fun w hw => by cases hw
  have nw : ∀ w ∈ ([] : List Wk), w.imm = true := fun w hw => by cases hw
  unfold stoE at h
  split at h
  · rename_i ds i hat
    cases Wr_int wk
    cases hi : ixN ds.length i with
    | none => rw [hi] at h; cases h
    | some n =>
      rw [hi] at h
      cases h
      obtain ⟨a, xs, rfl, hH, hl, k⟩ := Gd.lstW (front := [(y, d)]) g1 hat hx nw
      exact .inl ⟨a, xs, i, n, rfl, rfl, hH, by rw [hl]; exact hi, hq _ (k _ _ [] fun z G A B r s => trL (ixN_lt hi) r s).1⟩
  · rename_i ks z hat
    cases Wr_str wk
    split at h
    · rename_i hz
      cases h
      obtain ⟨a, xs, rfl, hH, hl, hn, k⟩ := Gd.dkW (front := [(y, d)]) g1 hat hx nw
      refine .inr ⟨a, _, rfl, .inl ⟨xs, .inr z, hH, rfl, by have := congrArg List.length hl; simp only [List.length_map] at this; omega, rfl⟩, hq _ ?_⟩
      rw [setA_same hl hn]
      exact (k _ _ [] (setA_nodup _ _ hn) fun z G A B r s => trK r s).1
    · cases h
  · rename_i ks z hat
    cases Wr_int wk
    split at h
    · rename_i hz
      cases h
      obtain ⟨a, xs, rfl, hH, hl, hn, k⟩ := Gd.dkW (front := [(y, d)]) g1 hat hx nw
      refine .inr ⟨a, _, rfl, .inl ⟨xs, .inl z, hH, rfl, by have := congrArg List.length hl; simp only [List.length_map] at this; omega, rfl⟩, hq _ ?_⟩
      rw [setA_same hl hn]
      exact (k _ _ [] (setA_nodup _ _ hn) fun z G A B r s => trK r s).1
    · cases h
  · rename_i ks ds hat
    split at h
    · rename_i kk hkk
      split at h
      · rename_i hz
        cases h
        obtain ⟨b, ys, rfl, t, rb⟩ := Rp.tup_inv wk
        have hb := g.tup t
        rw [keysD_of (A := []) rb hkk] at hb
        obtain ⟨a, xs, rfl, hH, hl, hn, k⟩ := Gd.dtW (front := [(y, d)]) g1 hat hx nw
        refine .inr ⟨a, _, rfl, .inr ⟨xs, kk, b, hH, rfl, hb, by have := congrArg List.length hl; simp only [List.length_map] at this; omega, rfl⟩, hq _ ?_⟩
        rw [setA_same hl hn]
        exact (k _ _ [] (setA_nodup _ _ hn) fun z G A B r s => trT r s).1
      · cases h
    · cases h
  · cases h
theorem ps_stoM {o i value : Expr} {pos' : Pos} {fv fk : M D} (hu : X.A.units + 1 < cLine) (hv : PE X value (tV0 X p W fv)) (ho : PE X o (tP0 X p W fp)) (hi : PE X i (tW X p W fk)) (hs : swapsWithSole [.Subscript o i pos'] value pos.line X.env = pure false)
    (hw : swappedStores [.Subscript o i pos'] value X.env = pure none) (ha : ∀ v, assign (.Subscript o i pos') X.env v = (do
      let ov ← holding [v] (eval o X.env)
      let iv ← holding [v, ov] (eval i X.env)
      standAt pos'
      holding [v, ov, iv] (setItem ov iv v)
      release [v, ov, iv] [])) : PS X (.Assign [.Subscript o i pos'] value pos) (tS X p W (stoM fv fp fk)) :=
  PSmono (ps_asg hv (pg_sub ho hi (DG.PSet.or set_list (set_dict hu)) ha) hs hw) fun D σ H ⟨lk, L, e, st, gd, q⟩ => by
    refine ⟨lk, L, e, st, gd, Res.run_mono (run_bind q) (fun d e1 q y H1 g1 => ?_) XS.xw⟩
    refine ⟨lk, L, e1, (y, d) :: st, g1, Res.run_mono (run_bind q) (fun pl e2 q x H2 g2 => ?_) fun c fs e' z => ?_⟩
    · refine ⟨lk, L, e2, (y, d) :: st, [.p pl.1 pl.2 x], g2, Res.run_mono (run_bind q) (fun k e3 q kv H3 g3 => ?_) fun c fs e' z => ?_⟩
      · cases h : stoE pl k d e3 with
        | none => rw [h] at q; exact False.elim q
        | some e4 =>
          rw [h] at q
          exact Gd.sto g3 rfl h fun H' g4 => q _ _ g4
      · exact fun cls d' H' ⟨h1, h2⟩ => z _ cls d' H' ⟨h1, h2.elim (fun z => .inl ⟨z.1, z.2.1, z.2.2.drop⟩) fun ⟨dd, fv, z1, z0, z2, z3, z4⟩ => .inr ⟨dd, fv, z1, z0, z2, z3, ((z4.perm List.perm_middle).drop)⟩⟩
    · exact fun cls d' H' ⟨h1, h2⟩ => z _ cls d' H' ⟨h1, h2.elim (fun z => .inl ⟨z.1, z.2.1, z.2.2.drop⟩) fun ⟨dd, fv, z1, z0, z2, z3, z4⟩ => .inr ⟨dd, fv, z1, z0, z2, z3, ((z4.perm List.perm_middle).drop)⟩⟩
end
end DG

set_option Elab.async false
set_option linter.all false
set_option maxHeartbeats 4000000
/-! DId: methods of lists and dicts where they stand. -/
namespace DG
open PySem PySem.Spec PyProof.Rows L2
set_option autoImplicit false
section
variable {X : Cx} {p : Par} {W : WX} {lk : List Addr} {L : Lk} {σ : L2.St} {H : Hp} {e : Env} {st : Stk} {ws : List Wk} {a b c : Expr} {pos : Pos} {f g h : M D} {fp : M (Nat × Pth)}
theorem Gd.lstW2 {st0 front : Stk} {q : Nat × Pth} {ds : List D} {x : V} (g : Gd X p lk L σ H e (front ++ st0) ws) (h : atP q e = some (.lst .own ds)) (hx : PlV σ H q.1 q.2 x) (hw : ∀ w ∈ ws, w.imm = true) :
    ∃ a xs z G A B, x = .ref a ∧ H a = some (.lst xs) ∧ z.K = X.K ∧ z.gm = X.mg ∧ Rp z G (.l xs ds) A ∧ RpS z G front B ∧
      ∀ (xs' : List V) (ds' : List D) (back : Stk) (C A' B' : List Addr), Rp z G (.l xs' ds') A' → RpS z G back B' → (A ++ B).Perm (C ++ (A' ++ B')) →
        Gd X p lk L σ (upd H a (.lst xs')) (setAt q (.lst .own ds') e) (back ++ st0) ws ∧ PlV σ (upd H a (.lst xs')) q.1 q.2 (.ref a) := by
  obtain ⟨r, he, hp, hs⟩ := atP_of h
  obtain ⟨a, u, rfl, hH, hM, _, z, G, A0, B1, kK, kg, hlk, hG, r0, s0, nd, k⟩ := g.change he hp rfl hx hw
  obtain ⟨a', xs, C0, e1, at0, o, rl, eA⟩ := r0.lst_inv
  cases e1
  have hu : u = .lst xs := by
    have : G a = some (.lst xs) := at0
    rw [hG] at this; exact Option.some.inj this
  subst hu
  refine ⟨a, xs, z, G, C0, B1, rfl, hH, kK, kg, rl, s0, fun xs' ds' back C A' B' t1 t2 t3 => ?_⟩
  rw [hs]
  subst eA
  have ha : a ∉ C0 ++ B1 := (List.nodup_cons.mp (show (a :: (C0 ++ B1)).Nodup from nd)).1
  refine k (.lst xs') (.lst .own ds') back C (a :: A') B' (fun G' hG' keep => ?_) ?_ (fun _ _ z => nomatch z)
  · have hA' : a ∉ A' := fun z => ha (t3.mem_iff.mpr (List.mem_append_right _ (List.mem_append_left _ z)))
    have hB' : a ∉ B' := fun z => ha (t3.mem_iff.mpr (List.mem_append_right _ (List.mem_append_right _ z)))
    exact ⟨Rp.lst (f := .own) hG' hlk (keep _ _ t1 hA'), t2.keep keep hB'⟩
  · show (a :: (C0 ++ B1)).Perm (C ++ (a :: (A' ++ B')))
    exact (List.Perm.cons a t3).trans List.perm_middle.symm
/-- what a method of a list does, by data -/
abbrev OpL := List D → List D → Option (List D × D)
def LmOp (r : V → List V → Hp → VK → Prop) (op : OpL) : Prop := ∀ (xs vs : List V) (ds as ds' : List D) (d : D) (z : Zo) (G : Hp) (A B : List Addr), vs.length = as.length → Rp z G (.l xs ds) A → RpS z G (vs.zip as) B → op ds as = some (ds', d) →
  ∃ xs' v C A' B', Rp z G (.l xs' ds') A' ∧ RpS z G [(v, d)] B' ∧ (A ++ B).Perm (C ++ (A' ++ B')) ∧ ∀ l H Q, H l = some (.lst xs) → Q v (upd H l (.lst xs')) → r (.ref l) vs H Q
def lmM (op : OpL) (fp : M (Nat × Pth)) (ga : M (List D)) : M D := fp.bind fun q => fun e => match atP q e with
  | some (.lst _ _) => (ga.bind fun as => fun e => match atP q e with
    | some (.lst .own ds) => (match op ds as with
      | some (ds', d) => .ok d (setAt q (.lst .own ds') e)
      | none => .bad)
    | _ => .bad) e
  | _ => .bad
theorem lm_imp {op : OpL} {r : V → List V → Hp → VK → Prop} {to : TE} {t : TA} {ga : M (List D)} {Q : VK} (hop : LmOp r op) (hto : ∀ σ H Q, tP0 X p W fp σ H Q → to σ H Q) (ht : ∀ σ H Q, tAV X p W ga σ H Q → t σ H Q) (q : tV0 X p W (lmM op fp ga) σ H Q) : tBM X.K "list" r to t σ H Q := by
  obtain ⟨lk, L, e, st, gd, q⟩ := q
  refine hto _ _ _ ⟨lk, L, e, st, gd, ?_⟩
  unfold lmM M.bind at q
  cases hf : fp e with
  | exc => rw [hf] at q; exact q
  | bad => rw [hf] at q; exact q
  | ok pl e1 =>
    rw [hf] at q
    dsimp only at q
    intro x H1 g1
    cases h1 : atP pl e1 with
    | none => rw [h1] at q; exact False.elim q
    | some d1 =>
      rw [h1] at q
      cases d1 with
      | lst f1 ds1 =>
        dsimp only at q
        obtain ⟨z, G, A0, _, _, r1, rd⟩ := g1.atRep h1 (g1.pl List.mem_cons_self)
        obtain ⟨a1, xs1, _, rfl, at1, _, _, _⟩ := r1.lst_inv
        refine ⟨.inl ⟨rfl, xs1, .inl (rd _ _ at1.rd)⟩, ht _ _ _ ⟨lk, L, e1, st, [.p pl.1 pl.2 (.ref a1)], g1, ?_⟩⟩
        cases hg : ga e1 with
        | exc => rw [hg] at q; exact q
        | bad => rw [hg] at q; exact q
        | ok as e2 =>
          rw [hg] at q
          dsimp only at q
          intro vs H2 hl g2
          cases h2 : atP pl e2 with
          | none => rw [h2] at q; exact False.elim q
          | some d2 =>
            rw [h2] at q
            cases d2 with
            | lst f2 ds =>
              cases f2 with
              | own =>
                dsimp only at q
                cases ho : op ds as with
                | none => rw [ho] at q; exact False.elim q
                | some w =>
                  obtain ⟨ds', d⟩ := w
                  rw [ho] at q
                  have hx := g2.pl (List.mem_cons_self)
                  have g3 := g2.subW (ws' := []) (fun w hw => by cases hw)
                  obtain ⟨a2, xs, z, G, A, B, e3, hH, kK, kg, rl, rs, k⟩ := Gd.lstW2 (front := vs.zip as) g3 h2 hx (fun w hw => by cases hw)
                  cases e3
                  obtain ⟨xs', v, C, A', B', t1, t2, t3, t4⟩ := hop xs vs ds as ds' d z G A B hl rl rs ho
                  exact t4 _ _ _ hH (q v _ (k xs' ds' [(v, d)] C A' B' t1 t2 t3).1)
              | _ => exact False.elim q
            | _ => exact False.elim q
      | _ => exact False.elim q
theorem pe_lmM {op : OpL} {r : V → List V → Hp → VK → Prop} {o : Expr} {id : String} {name : Str} {apos cpos : Pos} {es : List Expr} {ga : M (List D)} (slot : Slot "list" name id) (hty : typeOf (.builtin id) = pure (.type "method_descriptor")) (hm : MtR X id r) (hop : LmOp r op)
    (ho : PE X o (tP0 X p W fp)) (ha : PA X (a :: es) (tAV X p W ga)) (hbase : attributeBase o name X.env (eval o X.env) = eval o X.env)
    (hfew : ((backTo cpos (starEach (a :: es) X.env)).all (fun x => !x.1) && (backToKw cpos (keywordEach [] X.env)).all (fun x => x.1.isSome) && decide ((a :: es).length + ([] : List Keyword).length + (if ([] : List Keyword).isEmpty then 0 else 1) < 30)) = true)
    (hline : (apos.endLine == cpos.line) = true) (hs : starEach (a :: es) X.env = (false, eval a X.env) :: starEach es X.env) (hplain : (backTo cpos (starEach es X.env)).any (·.1) = false) : PE X (.Call (.Attribute o name apos) (a :: es) [] cpos) (tV0 X p W (lmM op fp ga)) :=
  PEmono (pe_bm PySem.F.plainAttrs_list slot hty hm ho ha hbase hfew hline hs hplain) fun σ H Q q => lm_imp hop (fun _ _ _ h => h) (fun _ _ _ h => h) q
theorem pe_lmM0 {op : OpL} {r : V → List V → Hp → VK → Prop} {o : Expr} {id : String} {name : Str} {apos cpos : Pos} (slot : Slot "list" name id) (hty : typeOf (.builtin id) = pure (.type "method_descriptor")) (hm : MtR X id r) (hop : LmOp r op)
    (ho : PE X o (tP0 X p W fp)) (hbase : attributeBase o name X.env (eval o X.env) = eval o X.env) (hline : (apos.endLine == cpos.line) = true) : PE X (.Call (.Attribute o name apos) [] [] cpos) (tV0 X p W (lmM op fp (.ret []))) :=
  PEmono (pe_bm0 PySem.F.plainAttrs_list slot hty hm ho hbase hline) fun σ H Q q => by
    have := lm_imp (t := tNil) hop (fun _ _ _ h => h) (fun σ H Q ⟨lk, L, e, st, ws, g, q⟩ => q [] H rfl g) q
    exact this
/-! ### the methods -/
def appO : OpL := fun ds as => match as with
  | [d] => if ds.length < sizeLine then some (ds ++ [d], .non) else none
  | _ => none
theorem vs1 {vs : List V} {d : D} (h : vs.length = [d].length) : ∃ v, vs = [v] := len1 h
theorem lm_append : LmOp rAppend appO := fun xs vs ds as ds' d z G A B hl r rs ho => by
  unfold appO at ho
  split at ho
  · rename_i d1
    split at ho
    · rename_i hz
      cases ho
      obtain ⟨y, rfl⟩ := len1 hl
      refine ⟨xs ++ [y], .non, [], A ++ B, [], r.appL rs.toL, .cons (A := []) (B := []) .non .nil, by simp, fun l H Q hH q => ⟨l, xs, y, rfl, rfl, hH, by rw [r.lenL]; exact hz, q⟩⟩
    · cases ho
  · cases ho
def popO : OpL := fun ds as => match as with
  | [] => ds[ds.length - 1]?.map fun d => (ds.dropLast, d)
  | _ => none
theorem lm_pop : LmOp rPop popO := fun xs vs ds as ds' d z G A B hl r rs ho => by
  unfold popO at ho
  split at ho
  · obtain rfl : vs = [] := List.eq_nil_of_length_eq_zero hl
    cases hd : ds[ds.length - 1]? with
    | none => rw [hd] at ho; cases ho
    | some d0 =>
      rw [hd] at ho
      cases ho
      have hlt := (List.getElem?_eq_some_iff.mp hd).1
      have hne : ds ≠ [] := by rintro rfl; simp at hlt
      have e1 : ds = ds.dropLast ++ [d] := by
        have := List.dropLast_concat_getLast hne
        rw [List.getLast_eq_getElem] at this
        rw [List.getElem?_eq_getElem hlt] at hd
        rw [← this, Option.some.inj hd]
        simp
      have r' := r
      rw [e1] at r'
      obtain ⟨xs1, ys, A1, A2, rfl, rfl, h1, h2⟩ := r'.unappL
      cases h2 with
      | @cons v _ vs' _ A3 A4 rv rr =>
        cases rr
        cases rs
        refine ⟨xs1, v, [], A1, A3 ++ [], h1, .cons (B := []) rv .nil, by simp, fun l H Q hH q => ⟨l, _, v, rfl, rfl, hH, by simp, by simpa using q⟩⟩
  · cases ho
def clearO : OpL := fun ds as => match as with
  | [] => some ([], .non)
  | _ => none
theorem lm_clear : LmOp rClear clearO := fun xs vs ds as ds' d z G A B hl r rs ho => by
  unfold clearO at ho
  split at ho
  · obtain rfl : vs = [] := List.eq_nil_of_length_eq_zero hl
    cases ho
    cases rs
    exact ⟨[], .non, A, [], [], .nil, .cons (A := []) (B := []) .non .nil, by simp, fun l H Q hH q => ⟨l, _, rfl, rfl, hH, q⟩⟩
  · cases ho
def insO : OpL := fun ds as => match as with
  | [.int 0, d] => if ds.length < sizeLine then some (d :: ds, .non) else none
  | _ => none
theorem lm_insert : LmOp (fun x vs H Q => ∃ (l : Addr) (xs : List V) (i : Int) (y : V), x = .ref l ∧ vs = [.int i, y] ∧ H l = some (.lst xs) ∧ xs.length < sizeLine ∧ 0 ≤ i ∧ i < 2 ^ 63 ∧
    Q .non (upd H l (.lst (xs.take i.toNat ++ [y] ++ xs.drop i.toNat)))) insO := fun xs vs ds as ds' d z G A B hl r rs ho => by
  unfold insO at ho
  split at ho
  · rename_i d1
    split at ho
    · rename_i hz
      cases ho
      obtain ⟨y0, y, rfl⟩ := len2 hl
      cases rs with
      | cons r0 rr =>
        cases rr with
        | cons r1 rr =>
          cases rr
          cases r0
          refine ⟨y :: xs, .non, [], _, [], .cons r1 r, .cons (A := []) (B := []) .non .nil, ?_, fun l H Q hH q => ⟨l, xs, 0, y, rfl, rfl, hH, by rw [r.lenL]; exact hz, by decide, by decide, q⟩⟩
          exact List.perm_iff_count.mpr fun x => by simp only [List.count_append, List.count_nil]; omega
    · cases ho
  · cases ho
/-! ### a place made anew -/
theorem Gd.mkPl {q : Nat × Pth} {d : D} {x : V} (g : Gd X p lk L σ H e st ws) (h : atP q e = some d) (hx : PlV σ H q.1 q.2 x) (hn : q.1 ∈ p.nl) : Gd X p lk L σ H e st (.p q.1 q.2 x :: ws) := by
  obtain ⟨r, he, hp, hs⟩ := atP_of h
  obtain ⟨S, G, A, B, g⟩ := g
  obtain ⟨v, A1, A2, h1, h2, h3, h4⟩ := g.env.split he
  obtain ⟨v0, A0, A1r, k1, k2, k3, k4⟩ := h2.focP hp
  have hxv : x = v0 := by
    obtain ⟨v', e1, e2⟩ := hx
    rw [h1] at e1; cases e1
    rw [g.hL] at e2
    exact e2.inj (lockAll_vp g.lkd k1)
  subst hxv
  exact ⟨S, G, A, B, g.less g.env g.stk (fun w hw => (List.mem_cons.mp hw).elim (fun z => z ▸ ⟨hn, v, h1, k1⟩) (g.wk w)) ⟨[], .refl _⟩ g.pin⟩
theorem PlV.snoc {i : Nat} {π : Pth} {x y : V} {s : Stp} (h : PlV σ H i π x) (k : VS H x s y) : PlV σ H i (π ++ [s]) y := let ⟨v, h1, h2⟩ := h; ⟨v, h1, h2.snoc k⟩
theorem getA_setA {κ α : Type} [DecidableEq κ] {l : List (κ × α)} {k : κ} {b : α} : getA (setA l k b) k = some b := by
  unfold setA
  have rep : ∀ l : List (κ × α), (getA l k).isSome = true → getA (repA l k b) k = some b := fun l => by
    induction l with
    | nil => intro h; simp [getA] at h
    | cons q r ih =>
      obtain ⟨k', a⟩ := q
      intro h
      unfold getA at h
      unfold repA
      by_cases e : k' = k
      · rw [if_pos e]; unfold getA; rw [if_pos e]
      · rw [if_neg e] at h ⊢; unfold getA; rw [if_neg e]; exact ih h
  have app : ∀ l : List (κ × α), getA l k = none → getA (l ++ [(k, b)]) k = some b := fun l => by
    induction l with
    | nil => intro _; show getA [(k, b)] k = _; unfold getA; rw [if_pos rfl]
    | cons q r ih =>
      obtain ⟨k', a⟩ := q
      intro h
      unfold getA at h
      show getA ((k', a) :: (r ++ [(k, b)])) k = _
      unfold getA
      by_cases e : k' = k
      · rw [if_pos e] at h; cases h
      · rw [if_neg e] at h ⊢; exact ih h
  cases q : getA l k with
  | some a => rw [show (some a).isSome = true from rfl, if_pos rfl]; exact rep l (by rw [q]; rfl)
  | none => rw [show (none : Option α).isSome = false from rfl, if_neg Bool.false_ne_true]; exact app l q
theorem atP_setAt {q : Nat × Pth} {e : Env} {d d' : D} (h : atP q e = some d) (hs : ∀ r π d', getP r π = some d → getP (setP r π d') π = some d') : atP q (setAt q d' e) = some d' := by
  obtain ⟨r, he, hp, hset⟩ := atP_of h
  rw [hset]
  unfold atP
  rw [List.getElem?_set_self (List.getElem?_eq_some_iff.mp he).1]
  exact hs r q.2 d' hp
theorem getA_repA {κ α : Type} [DecidableEq κ] {l : List (κ × α)} {k : κ} {a b : α} (h : getA l k = some a) : getA (repA l k b) k = some b := by
  have := getA_setA (l := l) (k := k) (b := b)
  unfold setA at this
  rw [h] at this
  exact this
theorem getP_setP : ∀ {π : Pth} {r d d' : D}, getP r π = some d → getP (setP r π d') π = some d'
  | [], _, _, _, _ => rfl
  | s :: π, r, d, d', h => by
    unfold getP at h
    cases q : getS r s with
    | none => rw [q] at h; cases h
    | some c =>
      rw [q] at h
      have ih := getP_setP (π := π) (d' := d') h
      unfold setP
      rw [q]
      show (getS (setS r s (setP c π d')) s).bind _ = _
      have : getS (setS r s (setP c π d')) s = some (setP c π d') := by
        cases r <;> cases s <;> simp only [getS, reduceCtorEq] at q <;> simp only [setS, getS]
        all_goals first | exact getA_repA q | (rw [List.getElem?_set_self (List.getElem?_eq_some_iff.mp q).1])
      rw [this]
      exact ih
theorem atP_set {q : Nat × Pth} {e : Env} {d d' : D} (h : atP q e = some d) : atP q (setAt q d' e) = some d' := atP_setAt h fun _ _ _ => getP_setP
/-! ### o.setdefault(k, new) as a place -/
def kOf : D → Option Key := keyD
def sdM (fp : M (Nat × Pth)) (fk fx : M D) : M (Nat × Pth) := fp.bind fun q => fun e => match atP q e with
  | some (.dk _ _) => (fk.bind fun k => fx.bind fun d => fun e => match atP q e, keyD k with
    | some (.dk .own ks), some kk => if ks.length < sizeLine then (if (getA ks kk).isSome then .ok (q.1, q.2 ++ [.key kk]) e else .ok (q.1, q.2 ++ [.key kk]) (setAt q (.dk .own (setA ks kk d)) e)) else .bad
    | _, _ => .bad) e
  | _ => .bad
theorem Gd.isD {q : Nat × Pth} {f : Fl} {ks : List (Key × D)} {x : V} (g : Gd X p lk L σ H e st ws) (h : atP q e = some (.dk f ks)) (hx : PlV σ H q.1 q.2 x) : ∃ a, x = .ref a ∧ IsD H a := by
  obtain ⟨z, G, A0, _, _, r, rd⟩ := g.atRep h hx
  obtain ⟨a, xs, B, rfl, at0, o, n, rl, _⟩ := r.dk_inv
  exact ⟨a, rfl, .inl ⟨xs, rd _ _ at0.rd⟩⟩
theorem pe_sdP {o k x : Expr} {apos cpos : Pos} {fk fx : M D} (m : M2 X o "setdefault" apos k x cpos) (hnl : ∀ e q e', fp e = .ok q e' → q.1 ∈ p.nl) (ho : PE X o (tP X p W fp)) (hk : PE X k (tW X p W fk)) (hx : PE X x (tV X p W fx)) :
    PE X (.Call (.Attribute o "setdefault" apos) [k, x] [] cpos) (tP0 X p W (sdM fp fk fx)) :=
  PEmono (pe_dsetd ho hk hx m) fun σ H Q ⟨lk, L, e, st, gd, q⟩ => by
    refine ⟨lk, L, e, st, [], gd, ?_⟩
    unfold sdM M.bind at q
    cases hf : fp e with
    | exc => rw [hf] at q; exact q
    | bad => rw [hf] at q; exact q
    | ok pl e1 =>
      have hin := hnl _ _ _ hf
      rw [hf] at q
      dsimp only at q
      intro x H1 g1
      cases h1 : atP pl e1 with
      | none => rw [h1] at q; exact False.elim q
      | some d1 =>
        rw [h1] at q
        cases d1 with
        | dk f1 ks1 =>
          dsimp only at q
          obtain ⟨a, rfl, hd⟩ := g1.isD h1 (g1.pl List.mem_cons_self)
          refine ⟨a, rfl, hd, lk, L, e1, st, [.p pl.1 pl.2 (.ref a)], g1, ?_⟩
          cases hg : fk e1 with
          | exc => rw [hg] at q; exact q
          | bad => rw [hg] at q; exact q
          | ok dk e2 =>
            rw [hg] at q
            dsimp only at q
            intro y H2 g2
            refine ⟨lk, L, e2, st, _, g2, ?_⟩
            cases hv : fx e2 with
            | exc => rw [hv] at q; exact q
            | bad => rw [hv] at q; exact q
            | ok d e3 =>
              rw [hv] at q
              dsimp only at q
              intro z H3 g3
              cases h2 : atP pl e3 with
              | none => rw [h2] at q; exact False.elim q
              | some d2 =>
                rw [h2] at q
                cases d2 with
                | dk f2 ks =>
                  cases f2 with
                  | own =>
                    cases hk : keyD dk with
                    | none => rw [hk] at q; exact False.elim q
                    | some kk =>
                      rw [hk] at q
                      dsimp only at q
                      by_cases hz : ks.length < sizeLine
                      case neg => rw [if_neg hz] at q; exact False.elim q
                      rw [if_pos hz] at q
                      have hx := g3.pl (i := pl.1) (π := pl.2) (List.mem_cons_of_mem _ List.mem_cons_self)
                      have ey := keyD_of (g3.wr (v := y) (d := dk) List.mem_cons_self) hk
                      have g4 := g3.subW (ws' := []) (fun w hw => by cases hw)
                      obtain ⟨a2, kvs, e3', hH, hl, hn, k⟩ := Gd.dkW (front := [(z, d)]) g4 h2 hx (fun w hw => by cases hw)
                      cases e3'
                      refine ⟨kvs, kk, hH, ey, by have := congrArg List.length hl; simp only [List.length_map] at this; omega, fun v hv => ?_, fun hv => ?_⟩
                      · rw [valV_getA] at hv
                        have hs : (getA ks kk).isSome = true := by rw [← getA_isSome hl kk, hv]; rfl
                        rw [if_pos hs] at q
                        cases hc : getA ks kk with
                        | none => rw [hc] at hs; cases hs
                        | some c =>
                          obtain ⟨z', G, A0, v', r, vs, rd, g5⟩ := g3.stepP (q := pl) (s := .key kk) (List.mem_cons_of_mem _ List.mem_cons_self) h2 hc
                          obtain ⟨a3, xs3, e4, hr, hx3⟩ := vs
                          cases e4
                          cases rd_inj (rd _ _ hr) (.inl hH) (by intros; simp) (by intros; simp)
                          rw [hv] at hx3
                          cases hx3
                          exact q _ _ (g5.drop.subW fun w hw => by rw [List.mem_singleton.mp hw]; exact List.mem_cons_self)
                      · rw [valV_getA] at hv
                        have hs : (getA ks kk).isSome = false := by rw [← getA_isSome hl kk, hv]; rfl
                        rw [hs, if_neg Bool.false_ne_true] at q
                        rw [setA_same hl hn]
                        obtain ⟨g5, hp5⟩ := k (setA kvs kk z) (setA ks kk d) [] (setA_nodup _ _ hn) fun z G A B r s => trK r s
                        have hat : atP (pl.1, pl.2 ++ [Stp.key kk]) (setAt pl (.dk .own (setA ks kk d)) e3) = some d := atP_snoc (atP_set h2) (show getA (setA ks kk d) kk = some d from getA_setA)
                        have hpl : PlV σ (upd H3 a (.dK (setA kvs kk z))) pl.1 (pl.2 ++ [Stp.key kk]) z := hp5.snoc (s := .key kk) (y := z) ⟨a, _, rfl, .inl upd_same, getA_setA⟩
                        exact q _ _ (Gd.mkPl (q := (pl.1, pl.2 ++ [Stp.key kk])) (x := z) g5 hat hpl hin)
                  | _ => exact False.elim q
                | _ => exact False.elim q
        | _ => exact False.elim q
/-! ### d.get -/
def getD2 (d k x : D) : Option D := match d, keyD k with
  | .dk _ ks, some kk => some ((getA ks kk).getD x)
  | _, _ => none
def isDk : D → Bool | .dk _ _ => true | _ => false
def get2M (fd fk fx : M D) : M D := fd.bind fun d => if isDk d then (fk.bind fun k => fx.bind fun x => .opt (getD2 d k x)) else .bad
theorem isDk_of {d : D} (h : isDk d = true) : ∃ f ks, d = .dk f ks := by cases d <;> first | exact ⟨_, _, rfl⟩ | cases h
theorem Wr_dk {H : Hp} {v : V} {f : Fl} {ks : List (Key × D)} (h : Wr X H v (.dk f ks)) : ∃ a xs, v = .ref a ∧ Rd H a (.dK xs) ∧ Rp (zW X.K X.mg H) H (.k xs ks) [] := by
  obtain ⟨a, xs, B, e, at0, o, n, r, q⟩ := h.dk_inv
  have e2 : B = [] := (List.append_eq_nil_iff.mp q.symm).2
  subst e2
  exact ⟨a, xs, e, at0.rd, r⟩
theorem pe_get2M {o k x : Expr} {apos cpos : Pos} {fd fk fx : M D} (hu : X.A.units + 1 < cLine) (m : M2 X o "get" apos k x cpos) (ho : PE X o (tW X p W fd)) (hk : PE X k (tW X p W fk)) (hx : PE X x (tW X p W fx)) :
    PE X (.Call (.Attribute o "get" apos) [k, x] [] cpos) (tW X p W (get2M fd fk fx)) :=
  PEmono (pe_dget2 hu ho hk hx m) fun σ H Q q => tR_mono (tR_bind q) fun lk L e st ws d q v H1 g1 => by
    by_cases hd : isDk d = true
    case neg => rw [if_neg hd] at q; exact False.elim q
    rw [if_pos hd] at q
    obtain ⟨f, ks, rfl⟩ := isDk_of hd
    obtain ⟨a, xs, rfl, rd, _⟩ := Wr_dk (g1.wr List.mem_cons_self)
    refine ⟨a, rfl, .inl ⟨xs, rd⟩, lk, L, e, st, _, g1, Res.run_mono (run_bind q) (fun dk e2 q y H2 g2 => ?_) fun _ _ _ z => z⟩
    refine ⟨lk, L, e2, st, _, g2, Res.run_mono (run_bind q) (fun dx e3 q z H3 g3 => ?_) fun _ _ _ z => z⟩
    cases hk : keyD dk with
    | none => unfold getD2 at q; rw [hk] at q; exact False.elim q
    | some kk =>
      unfold getD2 at q
      rw [hk] at q
      dsimp only at q
      have m1 : Wk.v (.ref a) (.dk f ks) ∈ Wk.v z dx :: Wk.v y dk :: .v (.ref a) (.dk f ks) :: ws := by simp
      obtain ⟨a2, xs2, e2', rd2, hl, kx⟩ := g3.subK m1
      cases e2'
      have ey := keyD_of (g3.wr (v := y) (d := dk) (by simp)) hk
      refine ⟨getA xs2 kk, .inl ⟨xs2, kk, rd2, ey, (valV_getA _ _).symm⟩, ?_⟩
      cases hc : getA ks kk with
      | some c =>
        rw [hc] at q
        obtain ⟨v', h1, g4⟩ := kx kk c hc
        rw [h1]
        exact q _ _ (g4.subW fun w hw => (List.mem_cons.mp hw).elim (fun z => z ▸ List.mem_cons_self) fun z => by simp [z])
      | none =>
        rw [hc] at q
        have : getA xs2 kk = none := by rw [getA_none, hl, ← getA_none]; exact hc
        rw [this]
        exact q _ _ (g3.subW fun w hw => (List.mem_cons.mp hw).elim (fun z => z ▸ List.mem_cons_self) fun z => by simp [z])
def get1M (fd fk : M D) : M D := fd.bind fun d => if isDk d then (fk.bind fun k => .opt (getD2 d k .non)) else .bad
theorem pe_get1M {o k : Expr} {apos cpos : Pos} {fd fk : M D} (hu : X.A.units + 1 < cLine) (m : M1 X o "get" apos k cpos) (ho : PE X o (tW X p W fd)) (hk : PE X k (tW X p W fk)) :
    PE X (.Call (.Attribute o "get" apos) [k] [] cpos) (tW X p W (get1M fd fk)) :=
  PEmono (pe_dget1 hu ho hk m) fun σ H Q q => tR_mono (tR_bind q) fun lk L e st ws d q v H1 g1 => by
    by_cases hd : isDk d = true
    case neg => rw [if_neg hd] at q; exact False.elim q
    rw [if_pos hd] at q
    obtain ⟨f, ks, rfl⟩ := isDk_of hd
    obtain ⟨a, xs, rfl, rd, _⟩ := Wr_dk (g1.wr List.mem_cons_self)
    refine ⟨a, rfl, .inl ⟨xs, rd⟩, lk, L, e, st, _, g1, Res.run_mono (run_bind q) (fun dk e2 q y H2 g2 => ?_) fun _ _ _ z => z⟩
    cases hk : keyD dk with
    | none => unfold getD2 at q; rw [hk] at q; exact False.elim q
    | some kk =>
      unfold getD2 at q
      rw [hk] at q
      dsimp only at q
      have m1 : Wk.v (.ref a) (.dk f ks) ∈ Wk.v y dk :: .v (.ref a) (.dk f ks) :: ws := by simp
      obtain ⟨a2, xs2, e2', rd2, hl, kx⟩ := g2.subK m1
      cases e2'
      have ey := keyD_of (g2.wr (v := y) (d := dk) (by simp)) hk
      refine ⟨getA xs2 kk, .inl ⟨xs2, kk, rd2, ey, (valV_getA _ _).symm⟩, ?_⟩
      cases hc : getA ks kk with
      | some c =>
        rw [hc] at q
        obtain ⟨v', h1, g4⟩ := kx kk c hc
        rw [h1]
        exact q _ _ (g4.subW fun w hw => (List.mem_cons.mp hw).elim (fun z => z ▸ List.mem_cons_self) fun z => by simp [z])
      | none =>
        rw [hc] at q
        have : getA xs2 kk = none := by rw [getA_none, hl, ← getA_none]; exact hc
        rw [this]
        exact q _ _ ((g2.pushW (v := .non) (d := .non) fun z G _ _ => .non).subW fun w hw => (List.mem_cons.mp hw).elim (fun z => z ▸ List.mem_cons_self) fun z => by simp [z])
/-- .. to be walked: what stands there is frozen, or something new -/
def get2H (io : Bool) (fp : M (Nat × Pth)) (fk fx : M D) : M D := fp.bind fun q => fun e => match atP q e with
  | some (.dk _ _) => (fk.bind fun k => fx.bind fun x => fun e => match atP q e, keyD k with
    | some (.dk _ ks), some kk => (match getA ks kk with
      | some d => if allF noLk d then .ok (share io d) (setAt (q.1, q.2 ++ [.key kk]) (share io d) e) else .bad
      | none => .ok x e)
    | _, _ => .bad) e
  | _ => .bad
theorem pe_get2H {io : Bool} {o k x : Expr} {apos cpos : Pos} {fk fx : M D} (hu : X.A.units + 1 < cLine) (hio : io = false → p.O = []) (m : M2 X o "get" apos k x cpos) (ho : PE X o (tP X p W fp)) (hk : PE X k (tW X p W fk)) (hx : PE X x (tV X p W fx)) :
    PE X (.Call (.Attribute o "get" apos) [k, x] [] cpos) (tV X p W (get2H io fp fk fx)) :=
  PEmono (pe_dget2 hu ho hk hx m) fun σ H Q q => tR_mono (tR_bind q) fun lk L e1 st ws pl q x H1 g1 => by
    cases h1 : atP pl e1 with
    | none => rw [h1] at q; exact False.elim q
    | some d1 =>
      rw [h1] at q
      cases d1 with
      | dk f1 ks1 =>
        dsimp only at q
        obtain ⟨a, rfl, hd⟩ := g1.isD h1 (g1.pl List.mem_cons_self)
        refine ⟨a, rfl, hd, lk, L, e1, st, _, g1, Res.run_mono (run_bind q) (fun dk e2 q y H2 g2 => ?_) fun _ _ _ z => z⟩
        refine ⟨lk, L, e2, st, _, g2, Res.run_mono (run_bind q) (fun d e3 q z H3 g3 => ?_) fun _ _ _ z => z⟩
        cases h2 : atP pl e3 with
        | none => rw [h2] at q; exact False.elim q
        | some d2 =>
          rw [h2] at q
          cases d2 with
          | dk f2 ks =>
            cases hk : keyD dk with
            | none => rw [hk] at q; exact False.elim q
            | some kk =>
              rw [hk] at q
              dsimp only at q
              have ey := keyD_of (g3.wr (v := y) (d := dk) (by simp)) hk
              have mp : Wk.p pl.1 pl.2 (.ref a) ∈ Wk.v y dk :: Wk.p pl.1 pl.2 (.ref a) :: ws := by simp
              obtain ⟨z', G, A0, _, _, r, rd⟩ := g3.atRep h2 (g3.pl mp)
              obtain ⟨a2, xs, B, e4, at0, o0, n, rl, _⟩ := r.dk_inv
              cases e4
              have hr := rd _ _ at0.rd
              refine ⟨getA xs kk, .inl ⟨xs, kk, hr, ey, (valV_getA _ _).symm⟩, ?_⟩
              cases hc : getA ks kk with
              | none =>
                rw [hc] at q
                rw [rl.nonK hc]
                exact q _ _ (g3.subW fun w hw => by simp [hw])
              | some c =>
                rw [hc] at q
                dsimp only at q
                by_cases hlk : allF noLk c = true
                · rw [if_pos hlk] at q
                  obtain ⟨z2, G2, A2, v', r2, vs, rd2, g5⟩ := g3.stepP (q := pl) (s := .key kk) mp h2 hc
                  obtain ⟨a3, xs3, e5, hr3, hx3⟩ := vs
                  cases e5
                  cases rd_inj (rd2 _ _ hr3) hr (by intros; simp) (by intros; simp)
                  rw [hx3]
                  have g6 := g5.shareAt (io := io) (atP_snoc h2 (s := .key kk) hc) (g5.pl List.mem_cons_self) hlk hio
                  exact q _ _ ((((g6.perm (List.Perm.swap _ _ _)).drop)).subW fun w hw => by simp [hw])
                · rw [if_neg hlk] at q; exact False.elim q
          | _ => exact False.elim q
      | _ => exact False.elim q
end
end DG

set_option Elab.async false
set_option linter.all false
set_option maxHeartbeats 4000000
/-! DIe: exceptions: made, raised. -/
namespace DG
open PySem PySem.Spec PyProof.Rows L2
set_option autoImplicit false
/-- the __init__ of an own exception: its arguments are its fields -/
def spExc (C : Addr) (flds : List Str) : Sp := fun vs H Q _ => ∃ a xs, vs = .ref a :: xs ∧ xs.length = flds.length ∧ H a = some (exo a C none) ∧ ∀ d, H d = none → d ≠ a → Q .non (upd (upd H d (exd d (flds.zip xs).reverse)) a (exo a C (some d)))
def plainN (x : Str) : Bool := !(x == ("__debug__" : Str)) && !(x == ("__classdict__" : Str))
theorem plainN_of {x : Str} (h : plainN x = true) : (x == ("__debug__" : Str)) = false ∧ (x == ("__classdict__" : Str)) = false := by
  unfold plainN at h
  simp only [Bool.and_eq_true, Bool.not_eq_true'] at h
  exact h
section
variable {P : Program} {w : World} {K : PySem.W.Frag} {mg : Str → Option Value} {base : Heap}
theorem exi1 {x f : Str} {C fI : Addr} {st : Stmt} {fd : FuncData} {p1 p2 p3 p4 : Pos} {ps pr : Str} (Fn : Fun K "__init__" x st fI fd) (S : FnScope [ps, pr] [ps, pr] (defScope st)) (hb : defBody st = [.Assign [.Attribute (.Name ps p1) f p2] (.Name pr p3) p4]) (T : OexC K C) (hf : PySem.W.findIn K (.ref C) f = some none)
    (n1 : plainN ps = true) (n2 : plainN pr = true) : FnOk P w K mg base (L2.CX P w) 1 fI fd [ps, pr] (spExc C [f]) := by
  obtain ⟨oc, od, kV, doc, pm, an, cdv, ct, osl, rfl, lk, hcd⟩ := Fn.ex
  refine fn_of lk hcd S (fun vs H Q E ⟨a, xs, e, hl, _⟩ => by subst e; simp at hl ⊢; omega) fun A outer s H vs Q E hr ⟨a, xs, e, hl, hH, q⟩ => ?_
  subst e
  obtain ⟨y, rfl⟩ : ∃ y, xs = [y] := by match xs, hl with | [y], _ => exact ⟨y, rfl⟩
  have v1 : Vis (defScope st) ps := (S.par ps (by simp)).imp_right .inl
  have v2 : Vis (defScope st) pr := (S.par pr (by simp)).imp_right .inl
  obtain ⟨a1, a2⟩ := plainN_of n1
  obtain ⟨b1, b2⟩ := plainN_of n2
  rw [hb]
  refine ⟨_, pss_one (ps_ost (pe_var (i := 0) rfl v1 a1 a2) (pe_var (i := 1) rfl v2 b1 b2)), ?_⟩
  exact ⟨y, rfl, .ref a, rfl, a, C, rfl, T, hf, .inl ⟨hH, fun dx h1 h2 => q dx h1 h2⟩⟩
theorem exi2 {x f f2 : Str} {C fI : Addr} {st : Stmt} {fd : FuncData} {p1 p2 p3 p4 p5 p6 p7 p8 : Pos} {ps pr pt : Str} (Fn : Fun K "__init__" x st fI fd) (S : FnScope [ps, pr, pt] [ps, pr, pt] (defScope st))
    (hb : defBody st = [.Assign [.Attribute (.Name ps p1) f p2] (.Name pr p3) p4, .Assign [.Attribute (.Name ps p5) f2 p6] (.Name pt p7) p8]) (T : OexC K C) (hf : PySem.W.findIn K (.ref C) f = some none) (hf2 : PySem.W.findIn K (.ref C) f2 = some none)
    (n1 : plainN ps = true) (n2 : plainN pr = true) (n3 : plainN pt = true) : FnOk P w K mg base (L2.CX P w) 1 fI fd [ps, pr, pt] (spExc C [f, f2]) := by
  obtain ⟨oc, od, kV, doc, pm, an, cdv, ct, osl, rfl, lk, hcd⟩ := Fn.ex
  refine fn_of lk hcd S (fun vs H Q E ⟨a, xs, e, hl, _⟩ => by subst e; simp at hl ⊢; omega) fun A outer s H vs Q E hr ⟨a, xs, e, hl, hH, q⟩ => ?_
  subst e
  obtain ⟨y, z, rfl⟩ : ∃ y z, xs = [y, z] := by match xs, hl with | [y, z], _ => exact ⟨y, z, rfl⟩
  have v1 : Vis (defScope st) ps := (S.par ps (by simp)).imp_right .inl
  have v2 : Vis (defScope st) pr := (S.par pr (by simp)).imp_right .inl
  have v3 : Vis (defScope st) pt := (S.par pt (by simp)).imp_right .inl
  obtain ⟨a1, a2⟩ := plainN_of n1
  obtain ⟨b1, b2⟩ := plainN_of n2
  obtain ⟨c1, c2⟩ := plainN_of n3
  rw [hb]
  refine ⟨_, pss_cons (ps_ost (pe_var (i := 0) rfl v1 a1 a2) (pe_var (i := 1) rfl v2 b1 b2)) (pss_one (ps_ost (pe_var (i := 0) rfl v1 a1 a2) (pe_var (i := 2) rfl v3 c1 c2))), ?_⟩
  refine ⟨y, rfl, .ref a, rfl, a, C, rfl, T, hf, .inl ⟨hH, fun dx h1 h2 => ?_⟩⟩
  refine ⟨z, rfl, .ref a, rfl, a, C, rfl, T, hf2, .inr ⟨dx, [(f, y)], upd_same, ?_, by simp, ?_⟩⟩
  · rw [upd_ne h2]; exact upd_same
  · have e : upd (upd (upd H dx (exd dx [(f, y)])) a (exo a C (some dx))) dx (exd dx [(f2, z), (f, y)]) = upd (upd H dx (exd dx [(f2, z), (f, y)])) a (exo a C (some dx)) := by
      funext b
      by_cases hb : b = dx
      · subst hb; rw [upd_same, upd_ne h2, upd_same]
      · rw [upd_ne hb]
        by_cases hb2 : b = a
        · subst hb2; rw [upd_same, upd_same]
        · rw [upd_ne hb2, upd_ne hb2, upd_ne hb, upd_ne hb]
    rw [e]
    exact q dx h1 h2
end
/-! ### raised -/
/-- what the written part says of an own exception class with the fields flds -/
structure ExOwn (K : PySem.W.Frag) (mg : Str → Option Value) (P : Program) (w : World) (base : Heap) (x : Str) (flds : List Str) : Prop where
  ex : ∃ C fI fd ps, OexC K C ∧ PySem.W.findIn K (.ref C) "__init__" = some (some (.ref fI)) ∧ PySem.W.typeIn K (.ref fI) = some (.type "function") ∧ FnOk P w K mg base (L2.CX P w) 1 fI fd ps (spExc C flds) ∧ Binds K fd ps [] ∧ mg x = some (.ref C)
section
variable {X : Cx} {p : Par} {W : WX} {lk : List Addr} {L : Lk} {σ : L2.St} {H : Hp} {e : Env} {st : Stk} {ws : List Wk} {a b c : Expr} {pos : Pos} {f g h : M D} {fp : M (Nat × Pth)}
def raiM (c : Str) (flds : List Str) (r : M (List D)) : M Fw := r.bind fun ds => fun e => if ds.length = flds.length then .exc c (flds.zip ds).reverse e else .bad
theorem zipS : ∀ {ks : List Str} {vs : List V} {ds : List D} {z : Zo} {H : Hp} {B : List Addr}, vs.length = ds.length → ds.length = ks.length → ((ks.zip vs).map (·.2)).zip ((ks.zip ds).map (·.2)) = vs.zip ds ∧ (ks.zip vs).map (·.1) = (ks.zip ds).map (·.1) ∧ (ks.zip vs).map (·.1) = ks
  | [], [], [], _, _, _, _, _ => ⟨rfl, rfl, rfl⟩
  | k :: ks, v :: vs, d :: ds, z, H, B, h1, h2 => by
    obtain ⟨e1, e2, e3⟩ := zipS (ks := ks) (z := z) (H := H) (B := B) (Nat.succ.inj h1) (Nat.succ.inj h2)
    refine ⟨?_, ?_, ?_⟩
    · simp only [List.zip_cons_cons, List.map_cons]; rw [e1]
    · simp only [List.zip_cons_cons, List.map_cons]; rw [e2]
    · simp only [List.zip_cons_cons, List.map_cons]; rw [e3]
  | _ :: _, [], [], _, _, _, _, h => by simp at h
  | _ :: _, [], _ :: _, _, _, _, h, _ => by simp at h
  | _ :: _, _ :: _, [], _, _, _, h, _ => by simp at h
  | [], _ :: _, _ :: _, _, _, _, _, h => by simp at h
  | [], [], _ :: _, _, _, _, h, _ => by simp at h
  | [], _ :: _, [], _, _, _, h, _ => by simp at h
theorem zipRev {α β : Type} : ∀ {as : List α} {bs : List β}, as.length = bs.length → as.reverse.zip bs.reverse = (as.zip bs).reverse
  | [], [], _ => rfl
  | a :: as, b :: bs, h => by
    have h := Nat.succ.inj h
    rw [List.reverse_cons, List.reverse_cons, List.zip_append (by simp [h]), zipRev h]
    show (as.zip bs).reverse ++ [(a, b)] = ((a, b) :: as.zip bs).reverse
    rw [List.reverse_cons]
  | [], _ :: _, h => by simp at h
  | _ :: _, [], h => by simp at h
/-- an untracked new address -/
theorem Gd.newXd (g : Gd X p lk L σ H e st ws) {d : Addr} (hd : H d = none) (fv : List (Str × V)) : Gd X p lk L σ (upd H d (.xd fv)) e st ws := by
  obtain ⟨S, G, A, B, g⟩ := g
  obtain ⟨f1, f2, f3, f4, f5, f6, f7⟩ := g.free hd
  have kr : ∀ b u, Rd G b u → Rd (upd G d (.xd fv)) b u := rd_upd_new f1
  have kA : ∀ b ∈ A ++ B, upd G d (.xd fv) b = G b := fun b hb => upd_ne fun z => f6 (z ▸ hb)
  have kd : ∀ b, (∃ u, G b = some u) → ∃ u, upd G d (.xd fv) b = some u := fun b ⟨u, q⟩ => ⟨u, by rw [upd_ne (ne_of_none q f1)]; exact q⟩
  refine ⟨S, upd G d (.xd fv), A, B, ⟨g.ok, by rw [g.hL, lockAll_upd f2.1 f2.2], ⟨fun b od q => ?_, fun b o q => ?_⟩, g.lkz, fun b hb => kd b (g.lke b hb), g.env.mono (.refl _) (.of kr) fun b hb => kA b (List.mem_append_left _ hb),
    g.stk.mono (.refl _) (.of kr) fun b hb => kA b (List.mem_append_right _ hb), fun w hw => (g.wk w hw).mono kr, g.nd, g.dj, g.ow, g.s0, fun b hb => ⟨(g.sd b hb).1, kd b (g.sd b hb).2⟩, fun b u q hO => ?_, fun b hb => kd b (g.oo b hb), g.pin, fun b hb x u => ?_⟩⟩
  · obtain ⟨u, hu, mu⟩ := g.lkd.lo b od q
    exact ⟨u, by rw [upd_ne (ne_of_none hu f1)]; exact hu, mu⟩
  · obtain ⟨h1, h2⟩ := g.lkd.hd b o q
    exact ⟨by rw [upd_ne fun z => by subst z; rw [f2.2] at q; cases q]; exact h1, h2⟩
  · have hb : b ≠ d := by rintro rfl; rw [f7] at q; cases q
    rw [upd_ne hb]; exact g.fr b u q hO
  · by_cases z : b = d
    · subst z; rw [upd_same]; exact fun z => by cases z
    · rw [upd_ne z]; exact g.nf b hb x u
theorem ps_raiM {x : Str} {flds : List Str} {k : Nat} {p1 cp : Pos} {es : List Expr} {r : M (List D)} (hc : X.calm = true) (tk : Takes X W) (E : ExOwn X.K X.mg X.prog X.w X.base x flds) (hr : Room k X.A) (hk : 2 ≤ k) (hg : Gl X x) (hne : flds ≠ []) (hfl : flds.length ≤ 1000)
    (ha : PA X (a :: es) (tAV X p W r)) (hdb : (x == ("__debug__" : Str)) = false) (he : starEach (a :: es) X.env = (false, eval a X.env) :: starEach es X.env) (hpl : (backTo cp (starEach es X.env)).any (·.1) = false) :
    PS X (.Raise (some (.Call (.Name x p1) (a :: es) [] cp)) none pos) (tS X p W (raiM x flds r)) := by
  obtain ⟨C, fI, fd, ps, T, iC, tI, F, hb, hm⟩ := E.ex
  refine PSmono (ps_raise hc tk (pmk_oex T iC tI F (hr.mono hk) hb .nil (L2.passes_call tk (fun _ _ _ _ z => z.elim)) hg hm ha hdb he hpl)) fun D σ H ⟨lk, L, e, st, gd, q⟩ => ?_
  refine ⟨lk, L, e, st, [], gd, Res.run_mono (run_bind q) (fun ds e2 q vs H1 hl g1 => ?_) XS.xw⟩
  by_cases hlen : ds.length = flds.length
  case neg => rw [if_neg hlen] at q; exact False.elim q
  rw [if_pos hlen] at q
  refine ⟨by rw [hl, hlen]; exact hfl, fun o ho => ?_⟩
  rw [List.append_nil]
  refine ⟨o, vs, rfl, by rw [hl, hlen], upd_same, fun d hd hdo => ⟨rfl, d, (flds.zip vs).reverse, upd_same, ?_, ?_, ?_⟩⟩
  · rw [upd_ne hdo, upd_same]
  · rw [upd_ne hdo] at hd; exact hd
  have hd1 : H1 d = none := by rw [upd_ne hdo] at hd; exact hd
  have eH : upd (del (upd (upd (upd H1 o (exo o C none)) d (exd d (flds.zip vs).reverse)) o (exo o C (some d))) o) d (.xd (flds.zip vs).reverse) = upd H1 d (.xd (flds.zip vs).reverse) := by
    funext b
    by_cases hb : b = d
    · subst hb; rw [upd_same, upd_same]
    · rw [upd_ne hb, upd_ne hb]
      by_cases hb2 : b = o
      · subst hb2; rw [del_same, ho]
      · rw [del_ne hb2, upd_ne hb2, upd_ne hb, upd_ne hb2]
  rw [eH]
  obtain ⟨z1, z2, z3⟩ := zipS (ks := flds) (z := ⟨X.K, X.mg, fun _ => True, fun _ => True, H1, []⟩) (H := H1) (B := []) hl hlen
  refine q σ (.ref C) (some d) _ ⟨hm, .inr ⟨d, (flds.zip vs).reverse, rfl, g1.new0 hd1, upd_same, ?_, ?_⟩⟩
  · rw [List.map_reverse, List.map_reverse, z2]
  · refine (g1.newXd hd1 _).subW (ws' := []) (fun w hw => by cases hw) |>.perm ?_
    refine List.Perm.append_right _ ?_
    rw [List.map_reverse, List.map_reverse, ← z1, zipRev (by simp [hl])]
    exact (List.reverse_perm _).symm
/-- an own class without __init__, made of one thing -/
structure ExPlain (K : PySem.W.Frag) (mg : Str → Option Value) (x : Str) : Prop where
  ex : ∃ C B newId initId bmB, ExcBaseFacts B newId initId bmB ∧ PySem.W.excIn K C bmB newId = true ∧ mg x = some (.ref C) ∧ PySem.W.keepIn K (.ref C) = true ∧ PySem.W.subIn K (.ref C) (.type "BaseException") = some true ∧ PySem.W.typeIn K (.ref C) = some (.type "type")
def raiT (c : Str) (f : M D) : M Fw := f.bind fun _ => fun e => .exc c [] e
theorem ps_raiT {x : Str} {p1 cp : Pos} (hc : X.calm = true) (tk : Takes X W) (E : ExPlain X.K X.mg x) (hg : Gl X x) (ha : PE X a (tW X p W f)) (hdb : (x == ("__debug__" : Str)) = false) (hs : starEach [a] X.env = [(false, eval a X.env)]) :
    PS X (.Raise (some (.Call (.Name x p1) [a] [] cp)) none pos) (tS X p W (raiT x f)) := by
  obtain ⟨C, B, n1, n2, bm, F, h1, h2, h3, h4, h5⟩ := E.ex
  refine PSmono (ps_raise hc tk (SkE.pmk_own1 F h1 h2 h3 (raises_own h4 h5) hg ha hs hdb)) fun D σ H ⟨lk, L, e, st, gd, q⟩ => ?_
  refine ⟨lk, L, e, st, [], gd, Res.run_mono (run_bind q) (fun d e2 q v H1 g1 => ?_) XS.xw⟩
  exact q σ (.ref C) none H1 ⟨h2, .inl ⟨rfl, rfl, g1.dropW⟩⟩
end
end DG

set_option Elab.async false
set_option linter.all false
set_option maxHeartbeats 4000000
/-! DIf: try: body, except x as n: suite; the exception stays known. -/
namespace L2
open PySem PySem.Spec PyProof.Rows
/-- an exception, by its object -/
def DGExc (a C : Addr) (d : Option Addr) : HO := .ext (DG.ExcP a C d)
def wAsK (K : PySem.W.Frag) (c : Value) (i : Nat) (ts : TS) (Wout : WX) (D : Ends) : WX := fun cls d σ H =>
  ∃ b, PySem.W.exmOne K cls c = some b ∧ (b = true → ∃ C, cls = .ref C ∧ ∀ a, H a = none → ts { nx := fun σ' H' => D.nx (σ'.set i none) H', rt := D.rt, bk := fun σ' H' => D.bk (σ'.set i none) H', ct := fun σ' H' => D.ct (σ'.set i none) H' } (σ.set i (some (.ref a))) (upd H a (.ext (DG.ExcP a C d)))) ∧
    (b = false → Wout cls d σ H)
section
variable {X : Cx} {x n : Str} {c : Value} {i : Nat} {body suite : List Stmt} {b₀ : Stmt} {np pos pos' : Pos} {tb : WX → TS} {ts : TS} {Wout : WX} {pins : List (Addr × Obj)} {σ : St} {H : Hp} {s sI : Shared}
theorem Inv.suiteK (I : Inv X pins σ H s) (J : Inv X pins σ H sI) {a C : Addr} {d : Option Addr} {oe : Obj} {vs : Array Value} {B : Heap} (ha : s.heap.get? a = some oe) (hd : oe.data = .fields vs) (hz : Zc (.ref C) d oe) (na : H a = none) (nL : a ≠ X.env.locals) (nF : a ∉ X.fs)
    (nb : ∀ b o, sI.heap.get? b = some o → b ∉ frs X.stack → B.get? b = some o) (hB : B.get? a = none) (nS : a ∉ frs X.stack) : Inv (X.suite a (X.pn ++ pins)) [] σ (upd H a (.ext (DG.ExcP a C d))) s := by
  have noI : ∀ o, sI.heap.get? a ≠ some o := fun o e => by
    have := nb a o e nS
    rw [hB] at this; cases this
  have no0 : ∀ o, X.s_0.heap.get? a = some o → a ∈ X.ex := fun o e => by
    by_cases hx : a ∈ X.ex
    · exact hx
    · obtain ⟨o', e'⟩ := J.base.there a o e hx
      exact absurd e' (noI o')
  have ne : ∀ {b : Addr} {o : HO}, H b = some o → b ≠ a := fun {b o} e z => by subst z; rw [na] at e; cases e
  refine ⟨I.ok.suite _ _, I.os, I.bare, ⟨I.base.keep, I.base.slot, fun b o e hn hx => ?_, I.base.there, fun b xs e => ?_, fun b o u e => ?_, fun b ps e => ?_⟩, I.loc, I.cell, ?_, fun y cc e => ?_, fun p hp => ?_, fun b o e => ?_, I.len⟩
  · by_cases z : b = a
    · subst z; exact absurd (no0 o e) hx
    · rw [upd_ne z]; exact I.base.free b o e hn hx
  · have := I.base.tups b xs e
    rw [upd_ne (ne this)]; exact this
  · have := I.base.frzs b o u e
    rw [upd_ne (ne this)]; exact this
  · obtain ⟨more, this⟩ := I.base.tbls b ps e
    exact ⟨more, by rw [upd_ne (ne this)]; exact this⟩
  · rw [upd_ne (Ne.symm nL)]; exact I.free
  · rw [upd_ne]
    · exact I.freeC y cc e
    · rintro rfl
      obtain ⟨v, o, ho, hdd⟩ := I.cell y _ e
      rw [ha] at ho; cases ho
      rw [hd] at hdd; cases hdd
  · have hp' : p ∈ X.pn ++ pins := by rw [List.append_nil] at hp; exact hp
    obtain ⟨e1, e2, e3, e4, e5⟩ := I.pin p hp'
    refine ⟨e1, ?_, e3, e4, e5⟩
    rw [upd_ne]
    · exact e2
    · intro z
      have := (J.pin p hp').1
      rw [z] at this
      exact absurd this (noI _)
  · by_cases z : b = a
    · subst z
      rw [upd_same] at e
      cases e
      exact ⟨⟨oe, vs, ha, hz.1, hz.2, hd⟩, ⟨_, ha⟩, fun h1 h2 ⟨o, v, q1, q2, q3, q4⟩ k => ⟨o, v, k _ q1, q2, q3, q4⟩⟩
    · rw [upd_ne z] at e
      refine (I.hok b o e).stay (fun _ _ _ q => q) (fun cc q => ?_) fun cc xs q => ?_
      · rw [upd_ne (ne q)]; exact q
      · rw [upd_ne (ne q)]; exact q
theorem Inv.unsuiteK {a : Addr} {pn' : List (Addr × Obj)} (I : Inv (X.suite a (X.pn ++ pins)) pn' σ H s) (ok : X.Ok) : Inv X pins σ H s :=
  ⟨ok, I.os, I.bare, I.base, I.loc, I.cell, I.free, I.freeC, fun p hp => I.pin p (List.mem_append_left _ hp), I.hok, I.len⟩
theorem ps_try_asK (hs : X.stack = X.env :: X.outer) (hf : X.env.frame = some X.env.locals) (hN : X.N.Nodup) (hi : X.N[i]? = some n) (hln : X.env.kindOf n = some .local) (hc : Names X x c) (tk : Takes X Wout)
    (hb : ∀ (W : WX) (pn : List (Addr × Obj)) (xe : Value → Shared → Prop), Takes (X.tr pn xe) W → PassesOwn (model X.prog X.w) X.A X.env xe → PSs (X.tr pn xe) body (tb W))
    (hsu : ∀ (a : Addr) (pn : List (Addr × Obj)), PSs (X.suite a pn) (b₀ :: suite) ts) :
    PS X (.Try body [.ExceptHandler (some (.Name x np)) (some n) (b₀ :: suite) pos'] [] [] pos) (fun D σ H => tb (wAsK X.K c i ts Wout D) D σ H) := by
  refine ⟨fun pins s σ H D I h => ?_⟩
  have ok := I.ok
  have hfr : X.A.frames = some (X.env :: X.outer) := by rw [ok.frames, hs]
  have hloc : Loc X.env.scope n := .inl hln
  refine wpAny_Try_except ?_
  refine wpAny_mono ((hb (wAsK X.K c i ts Wout D) (X.pn ++ pins) (fun e s₁ => wpAny (model X.prog X.w) X.A (noteFrame e X.env) (fun _ s₂ => wpAny (model X.prog X.w) X.A (setFlight e none) (fun _ s₃ =>
    wpAny (model X.prog X.w) X.A (handleBy e X.env [.ExceptHandler (some (.Name x np)) (some n) (b₀ :: suite) pos']) (SP X pins D) X.xe s₃) X.xe s₂) X.xe s₁) (fun u s' xx => ?_) PassesOwn.looking).run [] s σ H D (I.toTry _) h) (fun f s1 hsp => ?_) (fun e s1 he => he)
  · obtain ⟨a, B, sI, pins', σ', H', cls, d, rfl, J', nb, up, sky, na, os, ag, b, hb1, hyes, hno⟩ := xx
    have J : Inv X pins σ' H' sI := J'.ofTry ok
    have sky' : Sky B (X.env :: X.outer) a (Zc cls d) X.env.locals s'.heap := by rw [← hs]; exact sky
    show wpAny (model X.prog X.w) X.A (noteFrame (.ref a) X.env) _ _ _
    refine Sky.land Zc.steady hfr hf sky' fun h3 fl3 up3 => ?_
    have J3 : Inv X pins σ' H' { s' with heap := h3 } := J.landed nb fl3.1 (up.trans up3) os ag
    obtain ⟨oe3, vs3, he3, hz3, hd3⟩ := fl3.there
    have notFr : ∀ {h : Heap} {o : Obj} {vs : Array Value}, h.FunFrames B (X.env :: X.outer) → h.get? a = some o → o.data = .fields vs → a ∉ frs (X.env :: X.outer) := fun {h o vs} ff e dd hm => by
      obtain ⟨_, o', e', hnf⟩ := ff.mem hm
      rw [e] at e'; cases e'
      exact hnf _ dd
    have nfr := notFr fl3.2.2.1 he3 hd3
    have nL : a ≠ X.env.locals := fun z => nfr (List.mem_filterMap.mpr ⟨X.env, List.mem_cons_self, by rw [hf, z]⟩)
    have nF : a ∉ X.fs := fun hm => by
      obtain ⟨e, he, q⟩ := List.mem_filterMap.mp hm
      exact nfr (List.mem_filterMap.mpr ⟨e, List.mem_cons_of_mem _ he, q⟩)
    have S3 := J3.suite he3 hd3 na nL nF
    refine wpAny_handleBy_cons (codeAny_handlers_test ?_) (by intro q; cases q)
    have LT : PySem.W.Looks (model X.prog X.w) h3 (typeOf (.ref a)) cls := fun A Q E s k q => wpAny_typeOf_ref (k _ _ he3) (by rw [hz3.1]; exact q)
    have LM := PySem.W.exm_one (M := model X.prog X.w) (J3.kIn) LT hb1
    have test : ∀ {Q : Value → Shared → Prop} {E : Value → Shared → Prop}, Q c { s' with heap := h3 } → wpAny (model X.prog X.w) (X.A.mark (some (.ref a))) (eval (.Name x np) X.env) Q E { s' with heap := h3 } := fun {Q E} q => by
      obtain ⟨hg, hdbg, hm | ⟨hm, hv, hnn⟩⟩ := hc
      · exact ld_glob (X := X.suite a ((a, oe3) :: (X.pn ++ pins))) S3 hg hm q hdbg
      · exact ld_blt (X := X.suite a ((a, oe3) :: (X.pn ++ pins))) S3 hg hm hv q hnn hdbg
    refine test (LM.here ?_)
    cases b with
    | true =>
      refine codeAny_handlers_suite_as ?_
      refine HandSPX.lands_againZ fl3 fun h4 fl4 up4 => ?_
      have J4 : Inv X pins σ' H' { s' with heap := h4 } := J.landed nb fl4.1 ((up.trans up3).trans up4) os ag
      obtain ⟨oe4, vs4, he4, hz4, hd4⟩ := fl4.there
      obtain ⟨C, eC, hyes2⟩ := hyes rfl
      subst eC
      have S4 := Inv.suiteK J4 J he4 hd4 hz4 na nL nF nb fl4.2.1 (by rw [hs]; exact nfr)
      refine store_ok (X := X.suite a (X.pn ++ pins)) (v := .ref a) S4 hN hi hloc rfl (fun s5 S5 => ?_) (.inr hln)
      refine wpAny_mono ((hsu a (X.pn ++ pins)).run [] s5 _ _ _ S5 (hyes2 a na)) (fun f s6 hsp => ?_) (fun _ _ z => False.elim z)
      have end_ : ∀ {σ6 : St} {H6 : Hp} {Q : Shared → Prop}, Inv (X.suite a (X.pn ++ pins)) [] σ6 H6 s6 → (∀ s7, Inv X pins (σ6.set i none) H6 s7 → Q s7) →
          wpAny (model X.prog X.w) X.A (do bindName X.env n .none; unbindBehindTheSuite X.env n pos') (fun _ s7 => Q s7) X.xe s6 := fun {σ6 H6 Q} S6 hq => gone_ok (S6.unsuiteK ok) hN hi hln hq
      cases f with
      | next =>
        obtain ⟨σ6, H6, S6, q6⟩ := hsp
        exact end_ S6 fun s7 J7 => ⟨_, _, J7, q6⟩
      | brk =>
        obtain ⟨σ6, H6, S6, q6⟩ := hsp
        exact end_ S6 fun s7 J7 => ⟨_, _, J7, q6⟩
      | cont =>
        obtain ⟨σ6, H6, S6, q6⟩ := hsp
        exact end_ S6 fun s7 J7 => ⟨_, _, J7, q6⟩
      | ret u =>
        obtain ⟨v6, σ6, H6, S6, r6, q6⟩ := hsp
        exact end_ S6 fun s7 J7 => ⟨_, _, _, J7, r6, q6⟩
    | false =>
      show wpAny _ X.A (handleBy (.ref a) X.env []) _ _ _
      refine wpAny_handleBy_nil ?_
      obtain ⟨k1, k2, k3, oe, vs, T, oT, ts', he, hz, hd, h1, hr⟩ := id fl3
      unfold PySem.passOn
      refine wpAny_bind (wpAny_field he hd h1 ?_)
      rw [if_neg (show ¬ ((Value.ref T == Value.none) = true) from by simp)]
      have fin : wpAny (model X.prog X.w) X.A (setFlight (.ref a) X.env.frame) (fun _ s4 => wpAny (model X.prog X.w) X.A (throw (.ref a) : Sem Flow) (SP X pins D) X.xe s4) X.xe { s' with heap := h3 } := by
        rw [hf]
        refine HandSPX.setFlight_upZ fl3 fun h4 hh4 up4 => wpAny_throw (tk _ _ ?_)
        exact ⟨a, B, sI, pins, σ', H', cls, d, rfl, J, nb, (up.trans up3).trans up4, .inr (.inr (by rw [hs]; exact hh4)), na, os, ag, hno rfl⟩
      first
        | exact wpAny_bind (wpAny_pure (wpAny_bind fin))
        | exact wpAny_bind fin
  · cases f with
    | next =>
      obtain ⟨σ', H', J', q⟩ := hsp
      exact wpAny_execs_nil ⟨σ', H', J'.ofTry ok, q⟩
    | brk =>
      obtain ⟨σ', H', J', q⟩ := hsp
      exact ⟨σ', H', J'.ofTry ok, q⟩
    | cont =>
      obtain ⟨σ', H', J', q⟩ := hsp
      exact ⟨σ', H', J'.ofTry ok, q⟩
    | ret u =>
      obtain ⟨v, σ', H', J', r, q⟩ := hsp
      exact ⟨v, σ', H', J'.ofTry ok, r, q⟩
end
end L2

namespace DG
open PySem PySem.Spec PyProof.Rows L2
set_option autoImplicit false
section
variable {X : Cx} {p : Par} {W : WX} {lk : List Addr} {L : Lk} {σ : L2.St} {H : Hp} {e : Env} {st : Stk} {ws : List Wk} {a b c : Expr} {pos : Pos} {f g h : M D} {fp : M (Nat × Pth)}
theorem Gd.killS (g : Gd X p lk L σ H e st []) (i : Nat) (h0 : p.io = none ∨ i ≠ 0) : Gd X p lk L (σ.set i none) H (e.set i none) st [] := by
  obtain ⟨S, G, A, B, g⟩ := g
  obtain ⟨A2, k1, A1, k2⟩ := g.env.kill i
  have k3 : RpE (zo X p S lk) G (σ.set i none) (e.set i none) A2 := by
    by_cases hi : i < e.length
    · exact k1.setSlot none (List.getElem?_set_self hi)
    · have e1 : σ.set i none = σ := List.set_eq_of_length_le (by have := g.env.len; omega)
      rw [e1]; exact k1
  refine ⟨S, G, A2, B, g.less k3 g.stk (fun w hw => by cases hw) ⟨A1, ?_⟩ fun v hv => ?_⟩
  · rw [← List.append_assoc]
    exact List.Perm.append_right _ k2
  · rcases h0 with h0 | h0
    · rw [h0] at hv; cases hv
    · rw [List.getElem?_set_ne h0]; exact g.pin v hv
/-- a caught exception is known by its object -/
theorem Gd.mkExc {front : Stk} {o C : Addr} {c : Str} {d : Option Addr} {fv : List (Str × V)} {fs : List (Str × D)} (g : Gd X p lk L σ H e (front ++ st) ws) (ho : H o = none) (hm : X.mg c = some (.ref C))
    (hd : match d with | none => fv = [] | some dd => H dd = some (.xd fv) ∧ p.H0 dd = none) (hf : ∀ z G B, RpS z G front B → Rp z G (.s fv fs) B) :
    Gd X p lk L σ (upd H o (.ext (ExcP o C d))) e ((.ref o, .exc .sh c fs) :: st) ws := by
  obtain ⟨S, G, A, B, g⟩ := g
  obtain ⟨f1, f2, f3, f4, f5, f6, f7⟩ := g.free ho
  have kr : ∀ b u, Rd G b u → Rd (upd G o (.ext (ExcP o C d))) b u := rd_upd_new f1
  have kA : ∀ b ∈ A ++ B, upd G o (.ext (ExcP o C d)) b = G b := fun b hb => upd_ne fun z => f6 (z ▸ hb)
  have kd : ∀ b, (∃ u, G b = some u) → ∃ u, upd G o (.ext (ExcP o C d)) b = some u := fun b ⟨u, q⟩ => ⟨u, by rw [upd_ne (ne_of_none q f1)]; exact q⟩
  have hG : ∀ dd, d = some dd → G dd = some (.xd fv) ∧ p.H0 dd = none := fun dd e1 => by
    subst e1
    refine ⟨?_, hd.2⟩
    have h1 : H dd = some (.xd fv) := hd.1
    rw [g.hL] at h1
    cases q : L.hd.lookup dd with
    | some o' => rw [lockAll_hd q] at h1; have m := (g.lkd.hd dd o' q).2; cases h1; exact m.elim
    | none =>
      cases q2 : L.lo.lookup dd with
      | some od => obtain ⟨u, h2, h3⟩ := g.lkd.lo dd od q2; rw [lockAll_at g.lkd q2 h2] at h1; cases h1
      | none =>
        rw [lockAll_eq q, q2] at h1
        cases z : G dd with
        | none => rw [z] at h1; cases h1
        | some w => rw [z] at h1; exact h1
  let S' : Addr → Prop := fun b => S b ∨ b = o ∨ d = some b
  have zl : ZLe (zo X p S lk) (zo X p S' lk) := ⟨rfl, rfl, fun a h => .inl h, fun _ h => h, fun _ _ h => h, rfl⟩
  obtain ⟨B1, B2, h1, h2, rfl⟩ := RpS.unappend g.stk
  have h1' : RpS (zo X p S' lk) (upd G o (.ext (ExcP o C d))) front B1 := h1.mono zl (.of kr) fun b hb => kA b (List.mem_append_right _ (List.mem_append_left _ hb))
  have h2' : RpS (zo X p S' lk) (upd G o (.ext (ExcP o C d))) st B2 := h2.mono zl (.of kr) fun b hb => kA b (List.mem_append_right _ (List.mem_append_right _ hb))
  have r : Rp (zo X p S' lk) (upd G o (.ext (ExcP o C d))) (.v (.ref o) (.exc .sh c fs)) B1 := by
    refine .exc (fun _ => rfl) (.inl upd_same) (.inr (.inl rfl)) ?_ hm (hf _ _ _ h1')
    cases d with
    | none => exact hd
    | some dd => exact ⟨kr _ _ (.inl (hG dd rfl).1), .inr (.inr rfl)⟩
  refine ⟨S', upd G o (.ext (ExcP o C d)), A, B1 ++ B2, ⟨g.ok, by rw [g.hL, lockAll_upd f2.1 f2.2], ⟨fun b od q => ?_, fun b o' q => ?_⟩, fun b od q => (g.lkz b od q).elim (fun z => .inl (.inl z)) .inr, fun b hb => kd b (g.lke b hb), g.env.mono zl (.of kr) fun b hb => kA b (List.mem_append_left _ hb),
    .cons r h2', fun w hw => (g.wk w hw).mono kr, g.nd, fun b hb => ⟨fun z => ?_, (g.dj b hb).2⟩, g.ow, fun b hb => .inl (g.s0 b hb), fun b hb => ?_, fun b u q hO => ?_, fun b hb => kd b (g.oo b hb), g.pin, fun b hb x u => ?_⟩⟩
  · obtain ⟨u, hu, mu⟩ := g.lkd.lo b od q
    exact ⟨u, by rw [upd_ne (ne_of_none hu f1)]; exact hu, mu⟩
  · obtain ⟨h1, h2⟩ := g.lkd.hd b o' q
    exact ⟨by rw [upd_ne fun z => by subst z; rw [f2.2] at q; cases q]; exact h1, h2⟩
  · rcases z with z | z | z
    · exact (g.dj b hb).1 z
    · subst z; exact f6 hb
    · have h3 := (hG b z).1
      rcases List.mem_append.mp hb with hb | hb
      · obtain ⟨u, hu, mu⟩ := g.env.dom b hb; rw [h3] at hu; cases hu; exact mu
      · obtain ⟨u, hu, mu⟩ := g.stk.dom b hb; rw [h3] at hu; cases hu; exact mu
  · rcases hb with hb | hb | hb
    · exact ⟨(g.sd b hb).1, kd b (g.sd b hb).2⟩
    · subst hb; exact ⟨.inr (.inl f7), _, upd_same⟩
    · exact ⟨.inr (.inl (hG b hb).2), kd b ⟨_, (hG b hb).1⟩⟩
  · have hb : b ≠ o := by rintro rfl; rw [f7] at q; cases q
    rw [upd_ne hb]; exact g.fr b u q hO
  · by_cases z : b = o
    · subst z; rw [upd_same]; exact fun z => by cases z
    · rw [upd_ne z]; exact g.nf b hb x u
def ExTab (K : PySem.W.Frag) (mg : Str → Option Value) (c : Value) (tab : List (Str × Bool)) : Prop := ∀ x b, tab.lookup x = some b → ∃ C, mg x = some (.ref C) ∧ PySem.W.exmOne K (.ref C) c = some b
def Res.killR (i : Nat) : Res Fw → Res Fw
  | .ok a e => .ok a (e.set i none)
  | .exc c fs e => .exc c fs (e.set i none)
  | .bad => .bad
def noX {α : Type} : Res α → Res α
  | .exc _ _ _ => .bad
  | r => r
def tryK (b : M Fw) (tab : List (Str × Bool)) (i : Nat) (h : M Fw) : M Fw := fun e => match b e with
  | .exc c fs e' => (match tab.lookup c with
    | some true => if i < e'.length then noX ((h (e'.set i (some (.exc .sh c fs)))).killR i) else .bad
    | some false => .exc c fs e'
    | none => .bad)
  | r => r
theorem ps_tryK {x n : Str} {cv : Value} {i : Nat} {body suite : List Stmt} {b₀ : Stmt} {np pos' : Pos} {fb fh : M Fw} {tab : List (Str × Bool)} (hs : X.stack = X.env :: X.outer) (hf : X.env.frame = some X.env.locals) (hN : X.N.Nodup) (hi : X.N[i]? = some n) (hln : X.env.kindOf n = some .local) (hc : Names X x cv) (tk : Takes X W) (hio : p.io = none ∨ i ≠ 0)
    (ht : ExTab X.K X.mg cv tab) (hb : ∀ (W : WX) (pn : List (Addr × Obj)) (xe : Value → Shared → Prop), Takes (X.tr pn xe) W → PassesOwn (model X.prog X.w) X.A X.env xe → PSs (X.tr pn xe) body (tS X p W fb))
    (hsu : ∀ (a : Addr) (pn : List (Addr × Obj)), PSs (X.suite a pn) (b₀ :: suite) (tS X p W0 fh)) :
    PS X (.Try body [.ExceptHandler (some (.Name x np)) (some n) (b₀ :: suite) pos'] [] [] pos) (tS X p W (tryK fb tab i fh)) :=
  PSmono (ps_try_asK (tb := fun W => tS X p W fb) hs hf hN hi hln hc tk hb hsu) fun D σ H ⟨lk, L, e, st, gd, q⟩ => by
    refine ⟨lk, L, e, st, gd, ?_⟩
    unfold tryK at q
    cases hfb : fb e with
    | ok a e' => rw [hfb] at q; exact q
    | bad => rw [hfb] at q; exact q
    | exc cc fs e' =>
      rw [hfb] at q
      dsimp only at q
      refine fun σ1 cls d H1 ⟨hm, hx⟩ => ?_
      cases hl : tab.lookup cc with
      | none => rw [hl] at q; exact False.elim q
      | some b =>
        obtain ⟨C, hC, hb1⟩ := ht cc b hl
        have hm : X.mg cc = some cls := hm
        rw [hm] at hC; cases hC
        rw [hl] at q
        refine ⟨b, hb1, fun e1 => ?_, fun e1 => ?_⟩
        · subst e1
          dsimp only at q
          by_cases hlt : i < e'.length
          case neg => rw [if_neg hlt] at q; exact False.elim q
          rw [if_pos hlt] at q
          refine ⟨C, rfl, fun a ha => ?_⟩
          have g2 : Gd X p lk L σ1 (upd H1 a (.ext (ExcP a C d))) e' ((.ref a, .exc .sh cc fs) :: st) [] := by
            rcases hx with ⟨rfl, rfl, g⟩ | ⟨dd, fv, rfl, h0, h1, h2, g⟩
            · exact Gd.mkExc (front := []) (d := none) (fv := []) g ha hm rfl fun z G B r => by cases r; exact .snil
            · exact Gd.mkExc (d := some dd) (fv := fv) g ha hm ⟨h1, h0⟩ fun z G B r => r.toK h2
          have g3 := g2.store hlt hio (.inl rfl)
          refine ⟨lk, L, _, st, g3, ?_⟩
          cases hh : fh (e'.set i (some (.exc .sh cc fs))) with
          | bad => rw [hh] at q; exact q
          | exc => rw [hh] at q; exact False.elim q
          | ok fl e2 =>
            rw [hh] at q
            cases fl with
            | next => exact fun σ' H' g' => q _ _ (g'.killS i hio)
            | brk => exact fun σ' H' g' => q _ _ (g'.killS i hio)
            | cont => exact fun σ' H' g' => q _ _ (g'.killS i hio)
            | ret d => exact fun v σ' H' g' => q v _ _ (g'.killS i hio)
        · subst e1
          exact q σ1 _ d H1 ⟨hm, hx⟩
/-- without a name -/
def tryO (b : M Fw) (tab : List (Str × Bool)) (h o : M Fw) : M Fw := fun e => match b e with
  | .exc c fs e' => (match tab.lookup c with
    | some true => noX (h e')
    | some false => .exc c fs e'
    | none => .bad)
  | .ok .next e' => o e'
  | r => r
theorem ps_tryO {x : Str} {cv : Value} {body suite orelse : List Stmt} {b₀ : Stmt} {np pos' : Pos} {fb fh fo : M Fw} {tab : List (Str × Bool)} (hs : X.stack = X.env :: X.outer) (hf : X.env.frame = some X.env.locals) (hc : Names X x cv) (tk : Takes X W)
    (ht : ExTab X.K X.mg cv tab) (hb : ∀ (W : WX) (pn : List (Addr × Obj)) (xe : Value → Shared → Prop), Takes (X.tr pn xe) W → PassesOwn (model X.prog X.w) X.A X.env xe → PSs (X.tr pn xe) body (tS X p W fb))
    (hsu : ∀ (a : Addr) (pn : List (Addr × Obj)), PSs (X.suite a pn) (b₀ :: suite) (tS X p W0 fh)) (ho : PSs X orelse (tS X p W fo)) :
    PS X (.Try body [.ExceptHandler (some (.Name x np)) none (b₀ :: suite) pos'] orelse [] pos) (tS X p W (tryO fb tab fh fo)) :=
  PSmono (ps_try_onlyE ho hs hf hc tk (tb := fun W => tS X p W fb) (ts := fun _ _ _ => tS X p W0 fh) hb (fun a oe cls d pn _ _ => hsu a _)) fun D σ H ⟨lk, L, e, st, gd, q⟩ => by
    refine ⟨lk, L, e, st, gd, ?_⟩
    unfold tryO at q
    cases hfb : fb e with
    | ok fl e' =>
      rw [hfb] at q
      cases fl with
      | next => exact fun σ' H' g' => ⟨lk, L, e', st, g', q⟩
      | brk => exact q
      | cont => exact q
      | ret d => exact q
    | bad => rw [hfb] at q; exact q
    | exc cc fs e' =>
      rw [hfb] at q
      dsimp only at q
      refine fun σ1 cls d H1 ⟨hm, hx⟩ => ?_
      cases hl : tab.lookup cc with
      | none => rw [hl] at q; exact False.elim q
      | some b =>
        obtain ⟨C, hC, hb1⟩ := ht cc b hl
        have hm : X.mg cc = some cls := hm
        rw [hm] at hC; cases hC
        rw [hl] at q
        refine ⟨b, hb1, fun e1 => ?_, fun e1 => ?_⟩
        · subst e1
          dsimp only at q
          intro a ha
          have g2 : Gd X p lk L σ1 H1 e' st [] := by
            rcases hx with ⟨rfl, rfl, g⟩ | ⟨dd, fv, rfl, h0, h1, h2, g⟩
            · exact g
            · exact g.dropN
          refine ⟨lk, L, _, st, g2, ?_⟩
          cases hh : fh e' with
          | bad => rw [hh] at q; exact q
          | exc => rw [hh] at q; exact False.elim q
          | ok fl e2 => rw [hh] at q; exact q
        · subst e1
          exact q σ1 _ d H1 ⟨hm, hx⟩
end
end DG

set_option Elab.async false
set_option linter.all false
set_option maxHeartbeats 4000000
/-! DIg: exceptions as values: their fields, isinstance. -/
namespace PySem.W
open PySem PySem.Spec PySem.Calls PyProof.Rows
section
variable {prog : Program} {w : World} {A : Around} {E : Value → Shared → Prop} {s : Shared} {K : Frag} {x D : Addr} {ox : Obj} {od : Option Obj}
theorem findObj_dataX {C : Addr} {name : Str} {a g : Value} (hc : (clsIn K C).isSome = true) (ha : findIn K (.ref C) name = some (some a)) (hg : specialIn K a "__get__" = some (some g)) (ht : takesIn K a = some true) : findObj K C od name = some (.bind g a) := by
  obtain ⟨cd, hc⟩ := Option.isSome_iff_exists.mp hc
  unfold findObj
  rw [hc, Option.bind_some, ha, Option.bind_some]
  simp [hg, ht]
theorem kin_classX {Q : Option Value → Shared → Prop} (hga : findIn K (.ref D) "__getattribute__" = some (some (.builtin "BaseException.__getattribute__"))) (hgt : findIn K (.ref D) "__getattr__" = some none) (hsub : subIn K (.ref D) (.type "BaseException") = some true)
    (hdct : hasDictIn K D = true) (ha : findIn K (.ref D) "__class__" = some (some (.builtin "object.__class__")))
    (hn : specialIn K (.builtin "object.__class__") "__get__" = some (some (.builtin "getset_descriptor.__get__"))) (htk : takesIn K (.builtin "object.__class__") = some true) (hm : mroIn K D (.type "object") = some true)
    (X : K.In s.heap) (I : InstAt s.heap x ox D od) (h : Q (some (.ref D)) { s with toks := s.toks + 1 }) : wpAny (model prog w) A (getAttr? (.ref x) "__class__") Q E s := by
  have hf : findObj K D od "__class__" = some (.bind (.builtin "getset_descriptor.__get__") (.builtin "object.__class__")) := findObj_dataX (by obtain ⟨cd, hc, _⟩ := any_some hdct; rw [hc]; rfl) ha hn htk
  obtain ⟨hp, g, d, t, os⟩ := s
  have L0 := I.type (M := model prog w)
  have L1 := looks_findIn (M := model prog w) X hga
  have L2 := looks_findIn (M := model prog w) X hgt
  have L3 := looks_find (M := model prog w) X I hf
  have sub : Looks (model prog w) hp (isInstance (.ref x) (.type "BaseException")) true := L0.andThen (looks_subIn X hsub)
  have hx0 : (false && onTheHeap (Value.builtin "BaseException.__getattribute__")) = false := rfl
  have hx2 : (Value.builtin "BaseException.__getattribute__" == Value.builtin "object.__getattribute__") = false := by decide +kernel
  have hx1 : (onTheHeap (Value.ref D) && Value.builtin "BaseException.__getattribute__" == Value.builtin "object.__getattribute__") = false := by rw [hx2]; rfl
  unfold getAttr? getAttrBy? getAttrBy
  refine wpAny_bind (wpAny_mkText (wpAny_bind (wpAny_attempt (wpAny_holding (wpAny_bind (L0.at (wpAny_bind (L1.at ?_))))))))
  show wpAny _ _ (if (onTheHeap (Value.ref D) && Value.builtin "BaseException.__getattribute__" == Value.builtin "object.__getattribute__") = true then _ else _) _ _ _
  rw [hx1, if_neg Bool.false_ne_true]
  unfold getAttrByItsOwn hookBefore
  refine wpAny_bind ?_
  rw [if_pos (show onTheHeap (Value.ref D) = true from rfl)]
  refine L2.at ?_
  refine wpAny_bind (wpAny_attempt (wpAny_holding ?_))
  unfold callGetattribute
  rw [hx0, if_neg Bool.false_ne_true]
  unfold boundAndCalled
  rw [PySem.F.excAttr_ValueError.ga.bind (.ref x)]
  refine wpAny_bind (wpAny_pure ?_)
  show wpAny _ _ (call (.builtin "BaseException.__getattribute__") [.ref x, .str "__class__" t]) _ _ _
  refine wpAny_call (codeAny_call_builtin PySem.F.excAttr_ValueError.ga.plain PySem.F.entry_bexc_ga ?_)
  refine @check_slot (model prog w) _ _ ⟨hp, g, d, t + 1, os⟩ "BaseException.__getattribute__" "BaseException" "__getattribute__" (.ref x) [.str "__class__" t] [] _ (by decide +kernel) (by decide +kernel) sub (PySem.F.args_bexc_ga (.ref x) (.str "__class__" t)) ?_
  unfold Builtin.«object.__getattribute__»
  refine wpAny_bind (wpAny_of_eq (a := ((Value.ref x : Value), [Value.str "__class__" t])) (by first | rfl | (simp only [slotArgs]; rfl)) ?_)
  refine wpAny_bind (wpAny_pure (wpAny_bind (L0.at (wpAny_bind (L3.at ?_)))))
  show wpAny _ _ (holding [Value.builtin "object.__class__"] (call (.builtin "getset_descriptor.__get__") [.builtin "object.__class__", .ref x, .ref D]) >>= ret) _ _ _
  refine wpAny_bind (wpAny_holding (wpAny_call (class_get (s := ⟨hp, g, d, t + 1, os⟩) (ox := ox) (od := od) X I hm ?_)))
  refine wpAny_pure ?_
  show wpAny _ _ (handedOut (.ref D)) _ _ _
  rw [handedOut_of (v := .ref D) rfl]
  first
    | exact wpAny_pure (wpAny_pure h)
    | exact wpAny_pure h
    | exact wpAny_pure (wpAny_bind (wpAny_pure (wpAny_pure h)))
theorem kitx_excX (hga : findIn K (.ref D) "__getattribute__" = some (some (.builtin "BaseException.__getattribute__"))) (hgt : findIn K (.ref D) "__getattr__" = some none) (hsub : subIn K (.ref D) (.type "BaseException") = some true) (hdct : hasDictIn K D = true) (ha : findIn K (.ref D) "__class__" = some (some (.builtin "object.__class__")))
    (hn : specialIn K (.builtin "object.__class__") "__get__" = some (some (.builtin "getset_descriptor.__get__"))) (htk : takesIn K (.builtin "object.__class__") = some true) (hm : mroIn K D (.type "object") = some true) :
    KitX K (.ref x) (.ref D) (fun h => ∃ ox od, InstAt h x ox D od) where
  ty := fun _ _ _ ⟨_, _, I⟩ => I.type
  it := fun _ _ X _ => by
    obtain ⟨cdD, hcD, _⟩ := any_some hdct
    unfold clsIn at hcD
    split at hcD
    · rename_i c' d' cd' sl' ho
      intro A' Q' E' s' k q
      unfold isType loadHead
      exact wpAny_bind (wpAny_loadPart (k _ _ (X _ _ ho)) (wpAny_pure q))
    · cases hcD
  ne := (handS_kitx_exc (x := x) (ox := default) hga hgt hsub hdct ha hn htk hm).ne
  ca := fun X ⟨ox, od, I⟩ k => kin_classX hga hgt hsub hdct ha hn htk hm X I k
end
end PySem.W
namespace L2
open PySem PySem.Spec PyProof.Rows
section
variable {X : Cx}
/-- the exception at a, by its object, its dict -/
def ExAt (H : Hp) (a C : Addr) (d : Option Addr) : Prop := H a = some (.ext (DG.ExcP a C d)) ∧ match d with | none => True | some dd => ∃ fs, H dd = some (.xd fs)
theorem ExAt.inst {pins : List (Addr × Obj)} {σ : St} {H : Hp} {s : Shared} {a C : Addr} {d : Option Addr} (I : Inv X pins σ H s) (h : ExAt H a C d) : ∃ ox od, PySem.W.InstAt s.heap a ox C od := by
  obtain ⟨h1, h2⟩ := h
  have x : ObjOk X.prog X.w H s.heap a (.ext (DG.ExcP a C d)) := I.hok a _ h1
  obtain ⟨⟨o, vs, e1, e2, e3, e4⟩, _⟩ := x
  cases d with
  | none => exact ⟨o, none, e1, e2, by unfold PySem.W.notCls; rw [e4] <;> rfl, by rw [e3]; trivial⟩
  | some dd =>
    obtain ⟨fs, h2⟩ := h2
    have y : ObjOk X.prog X.w H s.heap dd (.xd fs) := I.hok dd _ h2
    obtain ⟨mA, hns, hr⟩ := y
    obtain ⟨od, ho, hl⟩ := lookIn_ns hns
    exact ⟨o, some od, e1, e2, by unfold PySem.W.notCls; rw [e4] <;> rfl, by rw [e3]; exact ho⟩
def rIsX (K : PySem.W.Frag) : List V → Hp → VK → Prop := fun xs H Q => ∃ (a C : Addr) (d : Option Addr) (c : V) (b : Bool), xs = [.ref a, c] ∧ ExAt H a C d ∧ ExcC K C ∧
  ((∃ u, ClsV c u ∧ PySem.W.kitOne K (.ref C) u = some b) ∨ ∃ tp cs us, c = .ref tp ∧ H tp = some (.tup cs) ∧ Paired ClsV cs us ∧ PySem.W.kitAny K (.ref C) us = some b) ∧ Q (.bl b) H
theorem call_isX : CallR X (.builtin "isinstance") (rIsX X.K) := by
  intro pins s σ H xs us Q I r h
  obtain ⟨a, C, d, c, b, rfl, ex, cc, h, q⟩ := h
  obtain ⟨u1, u2, rfl, r1, r2⟩ := vals2 r
  cases (show u1 = Value.ref a from r1)
  obtain ⟨ox, od, J⟩ := ex.inst I
  have Z := PySem.W.kitx_excX (x := a) cc.hg cc.hk cc.hs cc.hd cc.ha cc.hn cc.ht cc.hm
  rcases h with ⟨u, k, e⟩ | ⟨tp, cs, ws, rfl, hT, k, e⟩
  · have e2 := k.eq r2
    subst e2
    exact PySem.W.kia_one Z I.kIn ⟨ox, od, J⟩ e (fun z => nomatch z) fun tk => ⟨.bl b, H, I.tok tk, rfl, q⟩
  · cases (show u2 = Value.ref tp from r2)
    obtain ⟨_, its, rv, o, h1, h2, n, h3⟩ := (show ObjOk X.prog X.w H s.heap tp (.tup cs) from I.hok tp _ hT)
    have e3 := ClsV.all k rv
    subst e3
    obtain ⟨oc, od', dt, sl⟩ := o
    simp only at h2 h3
    subst h2 h3
    exact PySem.W.kia_tup Z I.kIn ⟨ox, od, J⟩ h1 e (fun z => nomatch z) fun tk => ⟨.bl b, H, I.tok tk, rfl, q⟩
/-- e.f, e an exception -/
def tXfd (K : PySem.W.Frag) (te : TE) (n : Str) : TE := fun σ H Q => te σ H fun x H1 => ∃ (a C dd : Addr) (fs : List (Str × V)) (v : V), x = .ref a ∧ H1 a = some (.ext (DG.ExcP a C (some dd))) ∧ XfC K C ∧ PySem.W.findIn K (.ref C) n = some none ∧ H1 dd = some (.xd fs) ∧ fs.lookup n = some v ∧ Q v H1
theorem pe_xfd {e : Expr} {te : TE} {pos : Pos} {n : Str} (he : PE X e te) (hb : attributeBase e n X.env (eval e X.env) = eval e X.env) : PE X (.Attribute e n pos) (tXfd X.K te n) := by
  refine ⟨fun pins s σ H Q I h => ?_⟩
  refine attr_of hb (thn (he.run pins s σ H _ I h) fun u s1 hh => ?_)
  obtain ⟨x, H1, I1, rx, a, C, dd, fs, v, ex, ea, T, hno, ed, l, q⟩ := hh
  subst ex
  obtain rfl : u = Value.ref a := rx
  have x : ObjOk X.prog X.w H1 s1.heap a (.ext (DG.ExcP a C (some dd))) := I1.hok a _ ea
  obtain ⟨⟨o, vs, e1, e2, e3, e4⟩, _⟩ := x
  have hx : ObjOk X.prog X.w H1 s1.heap dd (.xd fs) := I1.hok dd _ ed
  obtain ⟨mA, hns, hr⟩ := hx
  obtain ⟨od, ho, hl⟩ := lookIn_ns hns
  obtain ⟨u, hu, ru⟩ := RelO.some_of (v := v) (o := mA n) (by rw [← l]; exact hr n)
  have J : PySem.W.InstAt s1.heap a o C (some od) := ⟨e1, e2, by unfold PySem.W.notCls; rw [e4] <;> rfl, by rw [e3]; exact ho⟩
  exact HandSPX.exc_get I1.kIn J T.ga T.gg T.exC (PySem.W.findObj_own T.hdC hno rfl (by rw [hl, hu])) (handed_of ru) ⟨v, H1, I1.tok _, ru, q⟩
end
end L2

set_option Elab.async false
set_option linter.all false
set_option maxHeartbeats 4000000
/-! DIh: isinstance by a table, fields read, exceptions made as values. -/
namespace DG
open PySem PySem.Spec PyProof.Rows L2
set_option autoImplicit false
abbrev CN := Sum Str String
abbrev Tab := List ((CN × CN) × Bool)
def clsD : D → Option CN
  | .exc _ c _ => some (.inl c)
  | d => (tyD d).map .inr
def tgt1 : D → Option CN
  | .ty t => some (.inr t)
  | .fn x => some (.inl x)
  | _ => none
def tgts : List D → Option (List CN)
  | [] => some []
  | d :: r => match tgt1 d, tgts r with
    | some c, some cs => some (c :: cs)
    | _, _ => none
def isOne (tb : Tab) : CN → CN → Option Bool
  | .inr u, .inr t => kitB u t
  | a, b => tb.lookup (a, b)
def isAny (tb : Tab) (a : CN) : List CN → Option Bool
  | [] => some false
  | c :: r => match isOne tb a c with
    | some true => some true
    | some false => isAny tb a r
    | none => none
def CVal (mg : Str → Option Value) : CN → Value → Prop
  | .inl x, v => mg x = some v ∧ ∃ C, v = .ref C
  | .inr t, v => v = .type t
def TbOk (K : PySem.W.Frag) (mg : Str → Option Value) (tb : Tab) : Prop := ∀ a b r, tb.lookup (a, b) = some r → ∀ va vb, CVal mg a va → CVal mg b vb → PySem.W.kitOne K va vb = some r
/-- the own exception classes -/
def XcOk (K : PySem.W.Frag) (mg : Str → Option Value) (xc : List Str) : Prop := ∀ c ∈ xc, ∀ C, mg c = some (.ref C) → ExcC K C ∧ XfC K C
def cnOk (xc : List Str) : CN → Bool
  | .inl c => decide (c ∈ xc)
  | .inr _ => true
def isiT (tb : Tab) (xc : List Str) : List D → Option Nw
  | [d, t] => match clsD d, (match t with | .tup ts => tgts ts | t => (tgt1 t).map fun c => [c]) with
    | some a, some cs => if cnOk xc a = true then (isAny tb a cs).map fun b => .sc (.bl b) else none
    | _, _ => none
  | _ => none
section
variable {X : Cx} {p : Par} {W : WX} {lk : List Addr} {L : Lk} {σ : L2.St} {H : Hp} {e : Env} {st : Stk} {ws : List Wk} {a b c : Expr} {pos : Pos} {f g h : M D} {fp : M (Nat × Pth)}
theorem isOne_of {K : PySem.W.Frag} {mg : Str → Option Value} {tb : Tab} (T : TbOk K mg tb) {a b : CN} {r : Bool} (h : isOne tb a b = some r) {va vb : Value} (ha : CVal mg a va) (hb : CVal mg b vb) : PySem.W.kitOne K va vb = some r := by
  cases a with
  | inl x => exact T _ _ _ h _ _ ha hb
  | inr u =>
    cases b with
    | inl y => exact T _ _ _ h _ _ ha hb
    | inr t =>
      cases (show va = _ from ha)
      cases (show vb = _ from hb)
      exact kit_ty h
theorem isAny_of {K : PySem.W.Frag} {mg : Str → Option Value} {tb : Tab} (T : TbOk K mg tb) {a : CN} {va : Value} (ha : CVal mg a va) : ∀ {cs : List CN} {us : List Value} {r : Bool}, isAny tb a cs = some r → Paired (CVal mg) cs us → PySem.W.kitAny K va us = some r
  | [], _, r, h, .nil => h
  | c :: cs, u :: us, r, h, .cons k rr => by
    unfold isAny at h
    unfold PySem.W.kitAny
    cases q : isOne tb a c with
    | none => rw [q] at h; cases h
    | some b =>
      rw [isOne_of T q ha k]
      rw [q] at h
      cases b with
      | true => exact h
      | false => exact isAny_of T ha h rr
theorem tgt1_of {H : Hp} {v : V} {d : D} {c : CN} (w : Wr X H v d) (h : tgt1 d = some c) : ∃ u, ClsV v u ∧ CVal X.mg c u := by
  cases d <;> simp only [tgt1, reduceCtorEq, Option.some.injEq] at h
  · subst h
    have w : Rp (zW X.K X.mg H) H (.v v (.fn _)) [] := w
    cases w with
    | @fn _ a e => exact ⟨.ref a, .own a, e, a, rfl⟩
  · subst h
    rename_i n
    have w : Rp (zW X.K X.mg H) H (.v v (.ty n)) [] := w
    cases w
    exact ⟨.type n, .ty n, rfl⟩
theorem tgts_of {H : Hp} : ∀ {vs : List V} {ds : List D} {cs : List CN}, Rp (zW X.K X.mg H) H (.l vs ds) [] → tgts ds = some cs → ∃ us, Paired ClsV vs us ∧ Paired (CVal X.mg) cs us
  | [], [], cs, _, h => by cases h; exact ⟨[], .nil, .nil⟩
  | v :: vs, d :: ds, cs, r, h => by
    obtain ⟨r1, r2⟩ := r.cons_nil
    unfold tgts at h
    cases q : tgt1 d with
    | none => rw [q] at h; cases h
    | some c =>
      cases q2 : tgts ds with
      | none => rw [q, q2] at h; cases h
      | some cs' =>
        rw [q, q2] at h
        cases h
        obtain ⟨u, k1, k2⟩ := tgt1_of r1 q
        obtain ⟨us, k3, k4⟩ := tgts_of r2 q2
        exact ⟨u :: us, .cons k1 k3, .cons k2 k4⟩
  | [], _ :: _, _, r, _ => nomatch r
  | _ :: _, [], _, r, _ => nomatch r
theorem Wr_exc {H : Hp} {v : V} {f : Fl} {c : Str} {fs : List (Str × D)} (nfl : ∀ a x w, H a = some (.frz x w) → Lkb w) (h : Wr X H v (.exc f c fs)) : ∃ a C d fv, v = .ref a ∧ X.mg c = some (.ref C) ∧ H a = some (.ext (ExcP a C d)) ∧ (match d with | none => fv = [] | some dd => H dd = some (.xd fv)) ∧ Rp (zW X.K X.mg H) H (.s fv fs) [] := by
  have h : Rp (zW X.K X.mg H) H (.v v (.exc f c fs)) [] := h
  cases h with
  | @exc f a C dd c fs' es A e at0 o x q r =>
    have key : ∀ {a : Addr} {u : HO}, Rd H a u → ¬ Lkb u → H a = some u := fun {a u} rd nl => by
      rcases rd with rd | ⟨o', rd⟩
      · exact rd
      · exact absurd (nfl _ _ _ rd) nl
    refine ⟨a, C, dd, fs', rfl, q, key at0 (fun z => z), ?_, r⟩
    cases dd with
    | none => exact x
    | some dd => exact key x.1 fun z => z
/-- a call by values, with what is known of locks -/
def CallNX (X : Cx) (f : Value) (op : List D → Option Nw) : Prop :=
  CallR X f fun xs H Q => (∀ a x w, H a = some (.frz x w) → Lkb w) ∧ ∃ ds r, xs.length = ds.length ∧ (∀ w ∈ xs.zip ds, Wr X H w.1 w.2) ∧ op ds = some r ∧ NewR X H r Q
theorem pe_callNX {id : String} {x : Str} {p1 : Pos} {es : List Expr} {op : List D → Option Nw} {r : M (List D)} (hc : CallNX X (.builtin id) op) (hg : Gl X x) (hm : X.mg x = none) (hv : bootBuiltins x = some (.builtin id)) (ha : PA X (a :: es) (tAW X p W r)) (hn : x ≠ "__name__") (hdb : (x == ("__debug__" : Str)) = false)
    (he : starEach (a :: es) X.env = (false, eval a X.env) :: starEach es X.env) (hpl : (backTo pos (starEach es X.env)).any (·.1) = false) : PE X (.Call (.Name x p1) (a :: es) [] pos) (tV X p W (callM op r)) :=
  PEmono (pe_callB hc hg hm hv ha hn hdb he hpl) fun σ H Q q => tR_mono (tR_bind q) fun lk L e st ws ds q vs H1 hl g1 => by
    obtain ⟨n, ho, hn⟩ := newM_run q (g1.subW fun w hw => List.mem_append_right _ hw)
    exact ⟨g1.nfl, ds, n, hl, wr_args g1, ho, hn⟩
theorem cx_isi {tb : Tab} {xc : List Str} (T : TbOk X.K X.mg tb) (E : XcOk X.K X.mg xc) : CallNX X (.builtin "isinstance") (isiT tb xc) := by
  have base := L2.CallR.or (X := X) call_isX (L2.CallR.or call_isi call_isiT)
  intro pins s σ H xs us Q I r ⟨nfl, ds, n, hl, hw, ho, q⟩
  refine base pins s σ H xs us Q I r ?_
  unfold isiT at ho
  split at ho
  case h_2 => cases ho
  rename_i d t
  obtain ⟨v, u, rfl⟩ := len2 hl
  have w1 := hw (v, d) (by simp)
  have w2 := hw (u, t) (by simp)
  split at ho
  case h_2 => cases ho
  rename_i ca cs hca hcs
  by_cases hx : cnOk xc ca = true
  case neg => rw [if_neg hx] at ho; cases ho
  rw [if_pos hx] at ho
  cases hb : isAny tb ca cs with
  | none => rw [hb] at ho; cases ho
  | some bb =>
    rw [hb] at ho
    cases ho
    obtain ⟨v', hv, q⟩ := q
    cases hv
    -- what stands at the second place
    have tg : (∃ c, cs = [c] ∧ ∃ w, ClsV u w ∧ CVal X.mg c w) ∨ ∃ tp vs us, u = .ref tp ∧ H tp = some (.tup vs) ∧ Paired ClsV vs us ∧ Paired (CVal X.mg) cs us := by
      cases t with
      | tup ts =>
        obtain ⟨tp, vs, rfl, t0, rl⟩ := Rp.tup_inv w2
        obtain ⟨us, k1, k2⟩ := tgts_of rl hcs
        have hT : H tp = some (.tup vs) := by
          rcases (show Rd H tp (.tup vs) from t0) with z | ⟨o, z⟩
          · exact z
          · exact absurd (nfl _ _ _ z) fun z => z
        exact .inr ⟨tp, vs, us, rfl, hT, k1, k2⟩
      | ty n =>
        dsimp only at hcs
        cases hq : tgt1 (.ty n) with
        | none => rw [hq] at hcs; cases hcs
        | some c =>
          rw [hq] at hcs
          cases hcs
          obtain ⟨w, k1, k2⟩ := tgt1_of w2 hq
          exact .inl ⟨c, rfl, w, k1, k2⟩
      | fn n =>
        dsimp only at hcs
        cases hq : tgt1 (.fn n) with
        | none => rw [hq] at hcs; cases hcs
        | some c =>
          rw [hq] at hcs
          cases hcs
          obtain ⟨w, k1, k2⟩ := tgt1_of w2 hq
          exact .inl ⟨c, rfl, w, k1, k2⟩
      | _ => cases hcs
    have oneAny : ∀ {va : Value} {c : CN} {w : Value}, CVal X.mg ca va → isAny tb ca [c] = some bb → CVal X.mg c w → PySem.W.kitOne X.K va w = some bb := fun {va c w} h1 h2 h3 => by
      unfold isAny at h2
      cases q1 : isOne tb ca c with
      | none => rw [q1] at h2; cases h2
      | some r =>
        rw [q1] at h2
        have h4 := isOne_of T q1 h1 h3
        cases r with
        | true => cases h2; exact h4
        | false => rw [h4]; exact h2
    by_cases hexc : ∃ f c fs, d = .exc f c fs
    · obtain ⟨f, c, fs, rfl⟩ := hexc
      cases hca
      obtain ⟨a, C, dd, fv, rfl, hm, h1, h2, _⟩ := Wr_exc nfl w1
      have hm : X.mg c = some (.ref C) := hm
      have hcx := E c (of_decide_eq_true hx) C hm
      have ex : ExAt H a C dd := ⟨h1, by cases dd <;> first | trivial | exact ⟨_, h2⟩⟩
      refine .inl ⟨a, C, dd, u, bb, rfl, ex, hcx.1, ?_, q⟩
      rcases tg with ⟨c2, rfl, w, k1, k2⟩ | ⟨tp, vs, us2, rfl, hT, k1, k2⟩
      · exact .inl ⟨w, k1, oneAny ⟨hm, C, rfl⟩ hb k2⟩
      · exact .inr ⟨tp, vs, us2, rfl, hT, k1, isAny_of T (a := .inl c) (va := .ref C) ⟨hm, C, rfl⟩ hb k2⟩
    · have hty : ∃ t0, tyD d = some t0 ∧ ca = .inr t0 := by
        cases d <;> first | (cases hca; exact ⟨_, rfl, rfl⟩) | (exact absurd ⟨_, _, _, rfl⟩ hexc) | cases hca
      obtain ⟨t0, ht0, rfl⟩ := hty
      rcases tg with ⟨c2, rfl, w, k1, k2⟩ | ⟨tp, vs, us2, rfl, hT, k1, k2⟩
      · exact .inr (.inl ⟨v, u, .type t0, w, bb, rfl, k1, tyX_of w1 ht0, oneAny rfl hb k2, q⟩)
      · exact .inr (.inr ⟨v, tp, vs, .type t0, us2, bb, rfl, hT, k1, tyX_of w1 ht0, isAny_of T (a := .inr t0) (va := .type t0) rfl hb k2, q⟩)
/-! ### fields read -/
/-- a class, by name, and which names its instances may be asked for -/
abbrev FTab := List (Str × List Str)
structure FtOk (K : PySem.W.Frag) (mg : Str → Option Value) (xt it : FTab) : Prop where
  x : ∀ c ns, xt.lookup c = some ns → ∀ C, mg c = some (.ref C) → XfC K C ∧ ∀ n ∈ ns, PySem.W.findIn K (.ref C) n = some none
  i : ∀ c ns, it.lookup c = some ns → ∀ C, mg c = some (.ref C) → Cls K C ∧ ∀ n ∈ ns, NoAttr K C n
def fldD (xt it : FTab) (n : Str) : D → Option D
  | .exc _ c fs => match xt.lookup c with
    | some ns => if n ∈ ns then getA fs n else none
    | none => none
  | .ins _ c fs => match it.lookup c with
    | some ns => if n ∈ ns then getA fs n else none
    | none => none
  | _ => none
theorem lookup_getA {l : List (Str × V)} {n : Str} : l.lookup n = getA l n := by
  induction l with
  | nil => rfl
  | cons q r ih =>
    obtain ⟨k, a⟩ := q
    unfold getA
    by_cases e : k = n
    · subst e; rw [if_pos rfl, List.lookup_cons, beq_self_eq_true]
    · rw [if_neg e, List.lookup_cons, beq_false_of_ne (Ne.symm e)]; exact ih
theorem Gd.subS {fs : List (Str × D)} {fv : List (Str × V)} {n : Str} {d : D} (g : Gd X p lk L σ H e st ws) (hr : ∀ G, (∃ S A B, GdB X p lk L σ H e st ws S G A B) → Rp (zW X.K X.mg G) G (.s fv fs) []) (hd : getA fs n = some d) : ∃ x, getA fv n = some x ∧ Gd X p lk L σ H e st (.v x d :: ws) := by
  obtain ⟨S, G, A, B, g⟩ := g
  obtain ⟨x, A0, A1, h1, h2, h3, _⟩ := (hr G ⟨S, A, B, g⟩).focF hd
  have : A0 = [] := by
    have := h3.length_eq
    simp only [List.length_nil, List.length_append] at this
    exact List.eq_nil_of_length_eq_zero (by omega)
  subst this
  exact ⟨x, h1, S, G, A, B, g.less g.env g.stk (fun w hw => (List.mem_cons.mp hw).elim (fun z => z ▸ h2) (g.wk w)) ⟨[], .refl _⟩ g.pin⟩
def fldM (xt it : FTab) (n : Str) (f : M D) : M D := f.bind fun d => .opt (fldD xt it n d)
theorem pe_fldM {xt it : FTab} {n : Str} (T : FtOk X.K X.mg xt it) (ha : PE X a (tW X p W f)) (hb : attributeBase a n X.env (eval a X.env) = eval a X.env) : PE X (.Attribute a n pos) (tW X p W (fldM xt it n f)) :=
  PEmono (DG.PE.or (pe_fld ha hb) (pe_xfd ha hb)) fun σ H Q q => by
    obtain ⟨lk, L, e, st, ws, g0, q⟩ := q
    unfold fldM M.bind at q
    cases hf : f e with
    | bad => rw [hf] at q; exact False.elim q
    | exc c fs e' =>
      rw [hf] at q
      refine .inl ⟨lk, L, e, st, ws, g0, ?_⟩
      rw [hf]; exact q
    | ok d e' =>
      rw [hf] at q
      cases hd : fldD xt it n d with
      | none => dsimp only at q; rw [hd] at q; exact False.elim q
      | some c =>
        dsimp only at q
        rw [hd] at q
        have q : ∀ v H', Gd X p lk L σ H' e' st (.v v c :: ws) → Q v H' := q
        cases d <;> simp only [fldD, reduceCtorEq] at hd
        case ins fl cn fs =>
          refine .inl ⟨lk, L, e, st, ws, g0, ?_⟩
          rw [hf]
          intro v H1 g
          split at hd
          · rename_i ns hl
            split at hd
            · rename_i hn
              obtain ⟨a, C, dx, fv, B, rfl, at0, o, hm, r, eB⟩ := Rp.ins_inv (g.wr List.mem_cons_self)
              have eB : B = [] := (List.append_eq_nil_iff.mp eB.symm).2
              subst eB
              have hm : X.mg cn = some (.ref C) := hm
              have hC := T.i cn ns hl C hm
              have hH := g.ins at0.rd
              obtain ⟨x, hx, g2⟩ := g.subS (fv := fv) (fun G ⟨S, A, B, g'⟩ => by
                have w := g'.wk _ (List.mem_cons_self)
                obtain ⟨a', C', dx', fv', B', e1, at1, _, _, r', eB'⟩ := Rp.ins_inv (show Rp (zW X.K X.mg G) G (.v (.ref a) (.ins fl cn fs)) [] from w)
                cases e1
                have eB' : B' = [] := (List.append_eq_nil_iff.mp eB'.symm).2
                subst eB'
                have : Rd H1 a (.ins C' dx' fv') := by rw [g'.hL]; exact lockAll_rd g'.lkd at1.rd
                cases rd_inj this at0.rd (by intros; simp) (by intros; simp)
                exact r') hd
              exact ⟨a, C, dx, fv, x, rfl, hH, hC.1, hC.2 n hn, by rw [lookup_getA]; exact hx, q x H1 (g2.subW fun w hw => (List.mem_cons.mp hw).elim (fun z => z ▸ List.mem_cons_self) fun z => List.mem_cons_of_mem _ (List.mem_cons_of_mem _ z))⟩
            · cases hd
          · cases hd
        case exc fl cn fs =>
          refine .inr ⟨lk, L, e, st, ws, g0, ?_⟩
          rw [hf]
          intro v H1 g
          split at hd
          · rename_i ns hl
            split at hd
            · rename_i hn
              obtain ⟨a, C, dd, fv, rfl, hm, h1, h2, r⟩ := Wr_exc g.nfl (g.wr List.mem_cons_self)
              have hm : X.mg cn = some (.ref C) := hm
              have hC := T.x cn ns hl C hm
              cases dd with
              | none =>
                have h2 : fv = [] := h2
                subst h2
                cases r
                cases hd
              | some dd =>
                have h2 : H1 dd = some (.xd fv) := h2
                obtain ⟨x, hx, g2⟩ := g.subS (fv := fv) (fun G ⟨S, A, B, g'⟩ => by
                  have w := g'.wk _ (List.mem_cons_self)
                  have w : Rp (zW X.K X.mg G) G (.v (.ref a) (.exc fl cn fs)) [] := w
                  cases w with
                  | @exc _ _ C' dd' _ fv' _ _ e0 at1 o1 x1 q1 r1 =>
                    have h3 : Rd H1 a (.ext (ExcP a C' dd')) := by rw [g'.hL]; exact lockAll_rd g'.lkd at1
                    obtain ⟨_, ed⟩ := ExcP.inj (HO.ext.inj (rd_inj h3 (.inl h1) (by intros; simp) (by intros; simp)))
                    subst ed
                    have h4 : Rd H1 dd (.xd fv') := by rw [g'.hL]; exact lockAll_rd g'.lkd x1.1
                    cases rd_inj h4 (.inl h2) (by intros; simp) (by intros; simp)
                    exact r1) hd
                exact ⟨a, C, dd, fv, x, rfl, h1, hC.1, hC.2 n hn, h2, by rw [lookup_getA]; exact hx, q x H1 (g2.subW fun w hw => (List.mem_cons.mp hw).elim (fun z => z ▸ List.mem_cons_self) fun z => List.mem_cons_of_mem _ (List.mem_cons_of_mem _ z))⟩
            · cases hd
          · cases hd
end
end DG

set_option Elab.async false
set_option linter.all false
set_option maxHeartbeats 4000000
/-! DIi: defs that change their first argument. -/
namespace DG
open PySem PySem.Spec PyProof.Rows L2
set_option autoImplicit false
inductive FResI where
  | ok (d s : D) | exc (c : Str) (fs : List (Str × D)) (s : D) | bad
structure OutI (H : Hp) (A0 : List Addr) (S : Addr → Prop) (S' : Addr → Prop) (H' : Hp) (B : List Addr) : Prop where
  keep : ∀ a o, H a = some o → a ∉ A0 → H' a = some o
  kd : ∀ a ∈ A0, ∃ o, H' a = some o
  s0 : ∀ a, S a → S' a
  s1 : ∀ a, S' a → (S a ∨ H a = none ∨ a ∈ A0) ∧ ∃ o, H' a = some o
  nd : B.Nodup
  nw : ∀ a ∈ B, (H a = none ∨ a ∈ A0) ∧ ¬ S' a
  nf : ∀ a, H a = none ∨ a ∈ A0 → ∀ x u, H' a ≠ some (.frz x u)
def zoI (K : PySem.W.Frag) (mg : Str → Option Value) (S : Addr → Prop) (A0 : List Addr) (H : Hp) : Zo := ⟨K, mg, S, fun a => domP H a ∧ a ∉ A0, H, []⟩
def spI (K : PySem.W.Frag) (mg : Str → Option Value) (n : Nat) (f : List D → FResI) : Sp := fun vs H Q E => ∃ (v0 : V) (vs' : List V) (d0 : D) (ds' : List D) (S : Addr → Prop) (A0 : List Addr), vs = v0 :: vs' ∧ vs'.length = ds'.length ∧ ds'.length + 1 = n ∧
  (∀ a, S a → domP H a ∧ a ∉ A0) ∧ (∀ a x u, H a = some (.frz x u) → Lkb u) ∧ A0.Nodup ∧ Rp (zoI K mg S A0 H) H (.v v0 d0) A0 ∧ (∀ w ∈ vs'.zip ds', Rp (zoI K mg S A0 H) H (.v w.1 w.2) []) ∧
  match f (d0 :: ds') with
  | .ok d s => allF noRo d = true → allF noRo s = true → ∀ v H' S' B A', OutI H A0 S S' H' (A' ++ B) → Rp (zo0 K mg S' (fun _ => False) H) H' (.v v d) B → Rp (zo0 K mg S' (fun _ => False) H) H' (.v v0 s) A' → Q v H'
  | .exc c fs s => allFS noRo fs = true → allF noRo s = true → ∀ cls dd H' S' B A', mg c = some cls → OutI H A0 S S' H' (A' ++ B) → ((fs = [] ∧ dd = none ∧ B = []) ∨ ∃ d fv, dd = some d ∧ H d = none ∧ H' d = some (.xd fv) ∧ Rp (zo0 K mg S' (fun _ => False) H) H' (.s fv fs) B) → Rp (zo0 K mg S' (fun _ => False) H) H' (.v v0 s) A' → E cls dd H'
  | .bad => False
section
variable {X : Kx} {p : Par} {lk : List Addr} {L : Lk} {σ : L2.St} {H : Hp} {e : Env} {st : Stk} {ws : List Wk}
/-- at a call: the first of what is pending is handed over -/
theorem GdB.overI {x : V} {d0 : D} {S : Addr → Prop} {G : Hp} {A B0 : List Addr} (g : GdB X p lk L σ H e ((x, d0) :: st) ws S G A B0) (hl : allF noLk d0 = true)
    (hws : ∀ A0, Rp (zo X p S lk) G (.v x d0) A0 → ∀ w ∈ ws, ∀ G', (∀ a u, Rd G a u → a ∉ A0 → Rd G' a u) → WkOk X.K X.mg p.nl σ G' w) : ∃ (S : Addr → Prop) (A0 : List Addr), A0.Nodup ∧ (∀ a, S a → domP H a ∧ a ∉ A0) ∧ Rp (zoI X.K X.mg S A0 H) H (.v x (pasD d0)) A0 ∧
    (∀ v d, (v, d) ∈ st → allF noOwn d = true → Rp (zoI X.K X.mg S A0 H) H (.v v (pasD d)) []) ∧ (∀ a, A0 = [a] → ∀ o, p.H0 a = some o → a ∈ p.O) ∧
    ∀ {H' : Hp} {S' : Addr → Prop} {B A' : List Addr} {s : D}, OutI H A0 S S' H' (A' ++ B) → allF noRo s = true → Rp (zo0 X.K X.mg S' (fun _ => False) H) H' (.v x s) A' →
      ∀ {g : Sg}, allS noRo g = true → Rp (zo0 X.K X.mg S' (fun _ => False) H) H' g B → ∀ {front : Stk}, (∀ z G, Rp z G g B → RpS z G front B) → Gd X p lk L σ H' e (front ++ (x, s) :: st) ws := by
  obtain ⟨A0, B1, rx, rst, eB⟩ : ∃ A0 B1, Rp (zo X p S lk) G (.v x d0) A0 ∧ RpS (zo X p S lk) G st B1 ∧ B0 = A0 ++ B1 := by
    cases hs : g.stk with
    | cons r rr => exact ⟨_, _, r, rr, rfl⟩
  subst eB
  have ndA0 : A0.Nodup := (List.nodup_append.mp (List.nodup_append.mp g.nd).2.1).1
  have mA : ∀ a ∈ A0, a ∈ A ++ (A0 ++ B1) := fun a h => List.mem_append_right _ (List.mem_append_left _ h)
  have hall : (A ++ (A0 ++ B1)).Perm (A0 ++ (A ++ B1)) := List.perm_iff_count.mpr fun x => by simp only [List.count_append]; omega
  have ndR : (A ++ B1).Nodup := (List.nodup_append.mp (hall.nodup_iff.mp g.nd)).2.1
  have dis : ∀ a ∈ A ++ B1, a ∉ A0 := fun a h h0 => (List.nodup_append.mp (hall.nodup_iff.mp g.nd)).2.2 a h0 a h rfl
  have mR : ∀ a ∈ A ++ B1, a ∈ A ++ (A0 ++ B1) := fun a h => hall.mem_iff.mpr (List.mem_append_right _ h)
  have dA0 : ∀ a ∈ A0, ∃ u, G a = some u ∧ Mut (some u) := fun a h => rx.dom a h
  -- locked things are none of these
  have nlk : ∀ a od, L.lo.lookup a = some od → a ∉ A0 := fun a od q h => by
    rcases g.lkz a od q with z | z | z
    · exact (g.dj a (mA a h)).1 z
    · exact (g.dj a (mA a h)).2 z
    · -- an own thing is not locked by its mark
      have key : ∀ {sg : Sg} {A' : List Addr}, Rp (zo X p S lk) G sg A' → allS noLk sg = true → ∀ b ∈ A', b ∉ lk := by
        intro sg A' hr
        have fl : ∀ {f : Fl} {a : Addr}, FlOk (zo X p S lk) a f → noLk f = true → ∀ b ∈ FlA f a, b ∉ lk := fun {f a} o n b hb => by
          cases f with
          | own => have e : b = a := by simpa [FlA] using hb
                   subst e; exact o
          | lk => simp [noLk] at n
          | fr => cases hb
          | sh => cases hb
          | ro => cases hb
        induction hr with
        | lst a o _ ih => intro n b hb; simp only [allS, allF, Bool.and_eq_true] at n; exact (List.mem_append.mp hb).elim (fl o n.1 b) (ih n.2 b)
        | dk a o _ _ ih => intro n b hb; simp only [allS, allF, Bool.and_eq_true] at n; exact (List.mem_append.mp hb).elim (fl o n.1 b) (ih n.2 b)
        | dt a o _ _ ih => intro n b hb; simp only [allS, allF, Bool.and_eq_true] at n; exact (List.mem_append.mp hb).elim (fl o n.1 b) (ih n.2 b)
        | ins a o _ _ ih => intro n b hb; simp only [allS, allF, Bool.and_eq_true] at n; exact (List.mem_append.mp hb).elim (fl o n.1 b) (ih n.2 b)
        | tup _ _ ih => intro n b hb; exact ih n b hb
        | exc _ _ _ _ _ _ ih => intro n b hb; simp only [allS, allF, Bool.and_eq_true] at n; exact ih n.2 b hb
        | cons _ _ i1 i2 => intro n b hb; simp only [allS, allFL, Bool.and_eq_true] at n; exact (List.mem_append.mp hb).elim (i1 n.1 b) (i2 n.2 b)
        | kcons _ _ i1 i2 => intro n b hb; simp only [allS, allFK, Bool.and_eq_true] at n; exact (List.mem_append.mp hb).elim (i1 n.1 b) (i2 n.2 b)
        | tcons _ _ i1 i2 => intro n b hb; simp only [allS, allFT, Bool.and_eq_true] at n; exact (List.mem_append.mp hb).elim (i1 n.1 b) (i2 n.2 b)
        | scons _ _ i1 i2 => intro n b hb; simp only [allS, allFS, Bool.and_eq_true] at n; exact (List.mem_append.mp hb).elim (i1 n.1 b) (i2 n.2 b)
        | _ => intro n b hb; cases hb
      exact key rx (show allS noLk (.v x d0) = true from hl) a h z
  have GH : ∀ a o, G a = some o → domP H a := fun a o h => by
    rw [g.hL]
    cases q : L.lo.lookup a with
    | none => exact ⟨o, lockAll_free g.lkd q h⟩
    | some od => exact ⟨_, lockAll_at g.lkd q h⟩
  have eqA0 : ∀ a ∈ A0, H a = G a := fun a h => by
    obtain ⟨u, hu, _⟩ := dA0 a h
    have q : L.lo.lookup a = none := by
      cases q : L.lo.lookup a with
      | none => rfl
      | some od => exact absurd h (nlk a od q)
    rw [g.hL, lockAll_free g.lkd q hu, hu]
  have rdH : ∀ a u, Rd G a u → Rd H a u := fun a u r => by rw [g.hL]; exact lockAll_rd g.lkd r
  have conv : ∀ {v : V} {d : D} {A' : List Addr}, Rp (zo X p S lk) G (.v v d) A' → (∀ a ∈ A', a ∈ A0) → allF noLk d = true → Rp (zoI X.K X.mg S A0 H) H (.v v (pasD d)) A' := fun {v d A'} r hA n => by
    have r2 : Rp (zo X p S lk) H (.v v d) A' := r.mono (.refl _) (.of rdH) fun a ha => eqA0 a (hA a ha)
    exact r2.pas (z' := zoI X.K X.mg S A0 H) rfl rfl (fun _ _ h => by cases h) (fun a h => h) (fun a h => by
      obtain ⟨⟨o, ho⟩, hO⟩ := g.ok.rd a h
      exact ⟨GH a o (g.fr a o ho hO), fun z => (g.dj a (mA a z)).2 h⟩) n
  refine ⟨S, A0, ndA0, fun a h => ⟨let ⟨_, o, q⟩ := g.sd a h; GH a o q, fun z => (g.dj a (mA a z)).1 h⟩, conv rx (fun a h => h) hl, fun v d hm hn => ?_, fun a ea o ho => ?_, fun {H' S' B A' s} o hs rs {gg} hg rg {front} hf => ?_⟩
  · have hget : ∃ B2, Rp (zo X p S lk) G (.v v d) B2 := by
      clear hall ndR dis mR conv nlk
      have : ∀ {st : Stk} {B : List Addr}, RpS (zo X p S lk) G st B → (v, d) ∈ st → ∃ B2, Rp (zo X p S lk) G (.v v d) B2 := by
        intro st B r
        induction r with
        | nil => intro h; cases h
        | cons r _ ih =>
          intro h
          rcases List.mem_cons.mp h with h | h
          · cases h; exact ⟨_, r⟩
          · exact ih h
      exact this rst hm
    obtain ⟨B2, r⟩ := hget
    have hB2 : B2 = [] := by
      have key : ∀ {g' : Sg} {A' : List Addr}, Rp (zo X p S lk) G g' A' → allS noOwn g' = true → A' = [] := by
        intro g' A' hr hp
        induction hr with
        | tup _ _ ih => exact ih hp
        | @lst f _ _ _ _ _ _ _ ih => simp only [allS, allF, Bool.and_eq_true] at hp; rw [ih hp.2]; cases f <;> first | rfl | (simp [noOwn] at hp)
        | @dk f _ _ _ _ _ _ _ _ ih => simp only [allS, allF, Bool.and_eq_true] at hp; rw [ih hp.2]; cases f <;> first | rfl | (simp [noOwn] at hp)
        | @dt f _ _ _ _ _ _ _ _ ih => simp only [allS, allF, Bool.and_eq_true] at hp; rw [ih hp.2]; cases f <;> first | rfl | (simp [noOwn] at hp)
        | @ins f _ _ _ _ _ _ _ _ _ _ _ ih => simp only [allS, allF, Bool.and_eq_true] at hp; rw [ih hp.2]; cases f <;> first | rfl | (simp [noOwn] at hp)
        | @exc f _ _ _ _ _ _ _ _ _ _ _ _ _ ih => simp only [allS, allF, Bool.and_eq_true] at hp; exact ih hp.2
        | cons _ _ i1 i2 => simp only [allS, allFL, Bool.and_eq_true] at hp; rw [i1 hp.1, i2 hp.2]; rfl
        | kcons _ _ i1 i2 => simp only [allS, allFK, Bool.and_eq_true] at hp; rw [i1 hp.1, i2 hp.2]; rfl
        | tcons _ _ i1 i2 => simp only [allS, allFT, Bool.and_eq_true] at hp; rw [i1 hp.1, i2 hp.2]; rfl
        | scons _ _ i1 i2 => simp only [allS, allFS, Bool.and_eq_true] at hp; rw [i1 hp.1, i2 hp.2]; rfl
        | _ => rfl
      exact key r hn
    subst hB2
    have noLk_of : ∀ f, noOwn f = true → noLk f = true := fun f h => by cases f <;> first | rfl | exact h
    exact conv r (fun a h => by cases h) (by
      have : ∀ d : D, allF noOwn d = true → allF noLk d = true := by
        intro d
        induction d using D.rec (motive_2 := fun ds => allFL noOwn ds = true → allFL noLk ds = true) (motive_3 := fun ks => allFK noOwn ks = true → allFK noLk ks = true)
          (motive_4 := fun ks => allFT noOwn ks = true → allFT noLk ks = true) (motive_5 := fun ks => allFS noOwn ks = true → allFS noLk ks = true)
          (motive_6 := fun kd => allF noOwn kd.2 = true → allF noLk kd.2 = true) (motive_7 := fun kd => allF noOwn kd.2 = true → allF noLk kd.2 = true) (motive_8 := fun kd => allF noOwn kd.2 = true → allF noLk kd.2 = true) with
        | _ => first | (intro _; rfl) | (simp_all [allF, allFL, allFK, allFT, allFS])
      exact this d hn)
  · have := g.ow a (mA a (by rw [ea]; simp))
    rcases this with z | z
    · rw [z] at ho; cases ho
    · exact z
  -- the heap behind the call, unlocked
  let G' : Hp := fun a => if (L.lo.lookup a).isSome = true ∨ (L.hd.lookup a).isSome = true then G a else H' a
  have nhd : ∀ a o, L.hd.lookup a = some o → a ∉ A0 := fun a o q h => by
    obtain ⟨u, hu, _⟩ := dA0 a h
    rw [(g.lkd.hd a o q).1] at hu; cases hu
  have kG : ∀ a u, G a = some u → a ∉ A0 → G' a = some u := fun a u h hn => by
    show (if _ then G a else H' a) = some u
    by_cases c : (L.lo.lookup a).isSome = true ∨ (L.hd.lookup a).isSome = true
    · rw [if_pos c]; exact h
    · rw [if_neg c]
      have h1 : L.lo.lookup a = none := by
        cases q : L.lo.lookup a with
        | none => rfl
        | some _ => exact absurd (.inl (by rw [q]; rfl)) c
      exact o.keep a u (by rw [g.hL]; exact lockAll_free g.lkd h1 h) hn
  have atA0 : ∀ a ∈ A0, G' a = H' a := fun a h => by
    show (if _ then G a else H' a) = H' a
    rw [if_neg]
    rintro (c | c)
    · cases q : L.lo.lookup a with
      | none => rw [q] at c; cases c
      | some od => exact nlk a od q h
    · cases q : L.hd.lookup a with
      | none => rw [q] at c; cases c
      | some od => exact nhd a od q h
  have kr : ∀ a u, Rd G a u → a ∉ A0 → Rd G' a u := fun a u h hn => h.elim (fun z => .inl (kG _ _ z hn)) fun ⟨ob, z⟩ => .inr ⟨ob, kG _ _ z hn⟩
  have kd : ∀ a, (∃ u, G a = some u) → ∃ u, G' a = some u := fun a ⟨u, h⟩ => by
    by_cases hn : a ∈ A0
    · obtain ⟨w, hw⟩ := o.kd a hn
      exact ⟨w, by rw [atA0 a hn]; exact hw⟩
    · exact ⟨u, kG a u h hn⟩
  have keyL : LkOk L G' := ⟨fun a od q => let ⟨u, h1, h2⟩ := g.lkd.lo a od q; ⟨u, kG a u h1 (nlk a od q), h2⟩, fun a o' q => ⟨by
    show (if _ then G a else H' a) = none
    rw [if_pos (.inr (by rw [q]; rfl))]
    exact (g.lkd.hd a o' q).1, (g.lkd.hd a o' q).2⟩⟩
  have hL' : H' = lockAll L G' := by
    funext a
    cases q : L.hd.lookup a with
    | some o' =>
      rw [lockAll_hd q]
      exact o.keep a o' (by rw [g.hL]; exact lockAll_hd q) (nhd a o' q)
    | none =>
      rw [lockAll_eq q]
      cases q2 : L.lo.lookup a with
      | some od =>
        obtain ⟨u, h1, h2⟩ := g.lkd.lo a od q2
        rw [kG a u h1 (nlk a od q2)]
        exact o.keep a _ (by rw [g.hL]; exact lockAll_at g.lkd q2 h1) (nlk a od q2)
      | none =>
        have : G' a = H' a := by
          show (if _ then G a else H' a) = H' a
          rw [if_neg (by rw [q, q2]; simp)]
        rw [this]
        cases H' a <;> rfl
  have fresh : ∀ a, H a = none → G a = none ∧ (L.lo.lookup a = none ∧ L.hd.lookup a = none) ∧ a ∉ lk ∧ ¬ S a ∧ ¬ p.R0 a ∧ a ∉ A ++ (A0 ++ B1) ∧ p.H0 a = none := fun a h => g.free h
  have newG : ∀ a, (H a = none ∨ a ∈ A0) → G' a = H' a := fun a h => by
    rcases h with h | h
    · obtain ⟨_, ⟨h1, h2⟩, _⟩ := fresh a h
      show (if _ then G a else H' a) = H' a
      rw [if_neg (by rw [h1, h2]; simp)]
    · exact atA0 a h
  have back : ∀ a u, (∀ x y, u ≠ .frz x y) → L.hd.lookup a = none → Rd H' a u → Rd G' a u := fun a u nf hh h => by
    rw [hL'] at h
    cases q2 : L.lo.lookup a with
    | none =>
      have e : lockAll L G' a = G' a := by
        rw [lockAll_eq hh, q2]
        cases G' a <;> rfl
      rw [Rd, e] at h
      exact h
    | some od =>
      obtain ⟨x, hx, mx⟩ := keyL.lo a od q2
      rw [Rd, lockAll_at keyL q2 hx] at h
      rcases h with h | ⟨o', h⟩
      · exact absurd (Option.some.inj h).symm (nf _ _)
      · cases h; exact .inl hx
  have nohd' : ∀ a, S' a → L.hd.lookup a = none := fun a hs => by
    rcases (o.s1 a hs).1 with z | z | z
    · obtain ⟨_, u0, hu0⟩ := g.sd a z
      exact g.lkd.nohd hu0
    · exact (fresh a z).2.1.2
    · cases q : L.hd.lookup a with
      | none => rfl
      | some o' => exact absurd z (nhd a o' q)
  have kh : HLe (zo0 X.K X.mg S' (fun _ => False) H) H' G' := by
    refine ⟨fun a u h => ?_, fun a u nf hs h => ?_, fun a u _ hr _ => hr.elim⟩
    · refine back a _ (fun x y z => by cases z) ?_ h
      cases q : L.hd.lookup a with
      | none => rfl
      | some o' =>
        exfalso
        have m := (g.lkd.hd a o' q).2
        rw [hL', Rd, lockAll_hd q] at h
        rcases h with h | ⟨o2, h⟩ <;> (cases h; exact m.elim)
    · exact back a u nf (nohd' a hs) h
  have mkF : ∀ {sg : Sg} {A2 : List Addr}, (∀ a ∈ A2, a ∈ A' ++ B) → allS noRo sg = true → Rp (zo0 X.K X.mg S' (fun _ => False) H) H' sg A2 → Rp (zo X p S' lk) G' sg A2 := fun {sg A2} hA hro r => by
    refine (r.mono (.refl _) kh fun a ha => newG a (o.nw a (hA a ha)).1).noR hro rfl rfl (fun _ h => h) (fun a hs h0 => (fresh a h0).2.2.2.2.2.2) fun a ha => ?_
    rcases (o.nw a (hA a ha)).1 with z | z
    · exact (fresh a z).2.2.1
    · intro hk
      have key2 : a ∉ lk := by
        -- an own thing is not on the list
        have : ∀ {sg : Sg} {A' : List Addr}, Rp (zo X p S lk) G sg A' → allS noLk sg = true → ∀ b ∈ A', b ∉ lk := by
          intro sg A' hr
          have fl : ∀ {f : Fl} {a : Addr}, FlOk (zo X p S lk) a f → noLk f = true → ∀ b ∈ FlA f a, b ∉ lk := fun {f a} o n b hb => by
            cases f with
            | own =>
              have e : b = a := by simpa [FlA] using hb
              subst e; exact o
            | lk => simp [noLk] at n
            | fr => cases hb
            | sh => cases hb
            | ro => cases hb
          induction hr with
          | lst a o _ ih => intro n b hb; simp only [allS, allF, Bool.and_eq_true] at n; exact (List.mem_append.mp hb).elim (fl o n.1 b) (ih n.2 b)
          | dk a o _ _ ih => intro n b hb; simp only [allS, allF, Bool.and_eq_true] at n; exact (List.mem_append.mp hb).elim (fl o n.1 b) (ih n.2 b)
          | dt a o _ _ ih => intro n b hb; simp only [allS, allF, Bool.and_eq_true] at n; exact (List.mem_append.mp hb).elim (fl o n.1 b) (ih n.2 b)
          | ins a o _ _ ih => intro n b hb; simp only [allS, allF, Bool.and_eq_true] at n; exact (List.mem_append.mp hb).elim (fl o n.1 b) (ih n.2 b)
          | tup _ _ ih => intro n b hb; exact ih n b hb
          | exc _ _ _ _ _ _ ih => intro n b hb; simp only [allS, allF, Bool.and_eq_true] at n; exact ih n.2 b hb
          | cons _ _ i1 i2 => intro n b hb; simp only [allS, allFL, Bool.and_eq_true] at n; exact (List.mem_append.mp hb).elim (i1 n.1 b) (i2 n.2 b)
          | kcons _ _ i1 i2 => intro n b hb; simp only [allS, allFK, Bool.and_eq_true] at n; exact (List.mem_append.mp hb).elim (i1 n.1 b) (i2 n.2 b)
          | tcons _ _ i1 i2 => intro n b hb; simp only [allS, allFT, Bool.and_eq_true] at n; exact (List.mem_append.mp hb).elim (i1 n.1 b) (i2 n.2 b)
          | scons _ _ i1 i2 => intro n b hb; simp only [allS, allFS, Bool.and_eq_true] at n; exact (List.mem_append.mp hb).elim (i1 n.1 b) (i2 n.2 b)
          | _ => intro n b hb; cases hb
        exact this rx (show allS noLk (.v x d0) = true from hl) a z
      exact key2 hk
  have fin1 := mkF (fun a h => List.mem_append_right _ h) hg rg
  have fin2 := mkF (sg := .v x s) (fun a h => List.mem_append_left _ h) hs rs
  have zl : ZLe (zo X p S lk) (zo X p S' lk) := ⟨rfl, rfl, o.s0, fun _ h => h, fun _ _ h => h, rfl⟩
  have dom : ∀ a ∈ A ++ B1, domP G a := fun a ha => (List.mem_append.mp ha).elim (fun z => let ⟨u, h, _⟩ := g.env.dom a z; ⟨u, h⟩) fun z => let ⟨u, h, _⟩ := rst.dom a z; ⟨u, h⟩
  have kA : ∀ a ∈ A ++ B1, G' a = G a := fun a ha => by
    obtain ⟨u, h⟩ := dom a ha
    rw [kG a u h (dis a ha), h]
  have khO : HLe (zo X p S lk) G G' := by
    refine ⟨fun a u h => ?_, fun a u _ hs h => kr a u h fun z => (g.dj a (mA a z)).1 hs, fun a u _ hr h => kr a u h fun z => (g.dj a (mA a z)).2 hr⟩
    refine kr a _ h fun z => ?_
    obtain ⟨w, hw, mw⟩ := dA0 a z
    have := rd_fun h hw mw
    subst this
    exact mw
  have wkf : ∀ w ∈ ws, WkOk X.K X.mg p.nl σ G' w := fun w h => hws A0 rx w h G' kr
  have hperm : (A ++ (B ++ (A' ++ B1))).Perm ((A' ++ B) ++ (A ++ B1)) := List.perm_iff_count.mpr fun x => by simp only [List.count_append]; omega
  have mem : ∀ a ∈ A ++ (B ++ (A' ++ B1)), a ∈ A' ++ B ∨ a ∈ A ++ B1 := fun a ha => List.mem_append.mp (hperm.mem_iff.mp ha)
  have fresh2 : ∀ a ∈ A' ++ B, ¬ p.R0 a ∧ (p.H0 a = none ∨ a ∈ p.O) ∧ a ∉ A ++ B1 := fun a ha => by
    rcases (o.nw a ha).1 with z | z
    · have f := fresh a z
      exact ⟨f.2.2.2.2.1, .inl f.2.2.2.2.2.2, fun h => f.2.2.2.2.2.1 (mR a h)⟩
    · exact ⟨(g.dj a (mA a z)).2, g.ow a (mA a z), fun h => dis a h z⟩
  refine ⟨S', G', A, B ++ (A' ++ B1), ⟨g.ok, hL', keyL, fun a od q => (g.lkz a od q).elim (fun z => .inl (o.s0 _ z)) .inr, fun a ha => kd a (g.lke a ha), g.env.mono zl khO fun a ha => kA a (List.mem_append_left _ ha),
    (hf _ _ fin1).append (.cons fin2 (rst.mono zl khO fun a ha => kA a (List.mem_append_right _ ha))), wkf, ?_, fun a ha => ?_, fun a ha => ?_, fun a ha => o.s0 _ (g.s0 a ha), fun a ha => ?_, fun a u h hO => ?_, fun a ha => kd a (g.oo a ha), g.pin, fun a ha x u hu => ?_⟩⟩
  · refine hperm.nodup_iff.mpr (List.nodup_append.mpr ⟨o.nd, ndR, fun x hx y hy z => ?_⟩)
    subst z
    exact (fresh2 x hx).2.2 hy
  · rcases mem a ha with h | h
    · exact ⟨(o.nw a h).2, (fresh2 a h).1⟩
    · refine ⟨fun z => ?_, (g.dj a (mR a h)).2⟩
      rcases (o.s1 a z).1 with z | z | z
      · exact (g.dj a (mR a h)).1 z
      · obtain ⟨u, hu⟩ := dom a h
        rw [(fresh a z).1] at hu; cases hu
      · exact dis a h z
  · rcases mem a ha with h | h
    · exact (fresh2 a h).2.1
    · exact g.ow a (mR a h)
  · obtain ⟨h1, u, hu⟩ := o.s1 a ha
    rcases h1 with z | z | z
    · obtain ⟨h2, h3⟩ := g.sd a z
      exact ⟨h2, kd a h3⟩
    · exact ⟨.inr (.inl (fresh a z).2.2.2.2.2.2), u, by rw [newG a (.inl z)]; exact hu⟩
    · exact ⟨(g.ow a (mA a z)).elim (fun q => .inr (.inl q)) fun q => .inr (.inr q), u, by rw [newG a (.inr z)]; exact hu⟩
  · refine kG a u (g.fr a u h hO) fun z => ?_
    rcases g.ow a (mA a z) with q | q
    · rw [q] at h; cases h
    · exact hO q
  · by_cases hz : H a = none ∨ a ∈ A0
    · exact o.nf a hz x u (by rw [← newG a hz]; exact hu)
    · have hz1 : a ∉ A0 := fun z => hz (.inr z)
      have hG : ∃ w, G a = some w := by
        cases q : G a with
        | some w => exact ⟨w, rfl⟩
        | none =>
          exfalso
          have e : G' a = G a := by
            show (if _ then G a else H' a) = G a
            refine if_pos (.inr ?_)
            cases t : L.hd.lookup a with
            | some o' => rfl
            | none =>
              refine absurd (.inl ?_) hz
              rw [g.hL, lockAll_eq t, q]
              cases L.lo.lookup a <;> rfl
          rw [e, q] at hu; cases hu
      obtain ⟨w, hG⟩ := hG
      rw [kG a w hG hz1] at hu
      exact g.nf a ha x u (by rw [hG]; exact hu)
theorem Gd.overI {x : V} {d0 : D} (gd : Gd X p lk L σ H e ((x, d0) :: st) []) (hl : allF noLk d0 = true) : ∃ (S : Addr → Prop) (A0 : List Addr), A0.Nodup ∧ (∀ a, S a → domP H a ∧ a ∉ A0) ∧ Rp (zoI X.K X.mg S A0 H) H (.v x (pasD d0)) A0 ∧
    (∀ v d, (v, d) ∈ st → allF noOwn d = true → Rp (zoI X.K X.mg S A0 H) H (.v v (pasD d)) []) ∧ (∀ a, A0 = [a] → ∀ o, p.H0 a = some o → a ∈ p.O) ∧
    ∀ {H' : Hp} {S' : Addr → Prop} {B A' : List Addr} {s : D}, OutI H A0 S S' H' (A' ++ B) → allF noRo s = true → Rp (zo0 X.K X.mg S' (fun _ => False) H) H' (.v x s) A' →
      ∀ {g : Sg}, allS noRo g = true → Rp (zo0 X.K X.mg S' (fun _ => False) H) H' g B → ∀ {front : Stk}, (∀ z G, Rp z G g B → RpS z G front B) → Gd X p lk L σ H' e (front ++ (x, s) :: st) [] :=
  let ⟨_, _, _, _, g⟩ := gd
  g.overI hl fun _ _ w hw => by cases hw
/-- an untracked new address -/
theorem GdB.newO {S : Addr → Prop} {G : Hp} {A B : List Addr} (g : GdB X p lk L σ H e st ws S G A B) {d : Addr} (hd : H d = none) (o : HO) (nfz : ∀ x u, o ≠ .frz x u := by intro x u q; cases q) : GdB X p lk L σ (upd H d o) e st ws S (upd G d o) A B := by
  obtain ⟨f1, f2, f3, f4, f5, f6, f7⟩ := g.free hd
  have kr : ∀ b u, Rd G b u → Rd (upd G d o) b u := rd_upd_new f1
  have kA : ∀ b ∈ A ++ B, upd G d o b = G b := fun b hb => upd_ne fun z => f6 (z ▸ hb)
  have kd : ∀ b, (∃ u, G b = some u) → ∃ u, upd G d o b = some u := fun b ⟨u, q⟩ => ⟨u, by rw [upd_ne (ne_of_none q f1)]; exact q⟩
  refine ⟨g.ok, by rw [g.hL, lockAll_upd f2.1 f2.2], ⟨fun b od q => ?_, fun b o q => ?_⟩, g.lkz, fun b hb => kd b (g.lke b hb), g.env.mono (.refl _) (.of kr) fun b hb => kA b (List.mem_append_left _ hb),
    g.stk.mono (.refl _) (.of kr) fun b hb => kA b (List.mem_append_right _ hb), fun w hw => (g.wk w hw).mono kr, g.nd, g.dj, g.ow, g.s0, fun b hb => ⟨(g.sd b hb).1, kd b (g.sd b hb).2⟩, fun b u q hO => ?_, fun b hb => kd b (g.oo b hb), g.pin, fun b hb x u => ?_⟩
  · obtain ⟨u, hu, mu⟩ := g.lkd.lo b od q
    exact ⟨u, by rw [upd_ne (ne_of_none hu f1)]; exact hu, mu⟩
  · obtain ⟨h1, h2⟩ := g.lkd.hd b o q
    exact ⟨by rw [upd_ne fun z => by subst z; rw [f2.2] at q; cases q]; exact h1, h2⟩
  · have hb : b ≠ d := by rintro rfl; rw [f7] at q; cases q
    rw [upd_ne hb]; exact g.fr b u q hO
  · by_cases z : b = d
    · subst z; rw [upd_same]; exact fun z => nfz x u (Option.some.inj z)
    · rw [upd_ne z]; exact g.nf b hb x u
/-- a new instance is handed over to its __init__ -/
theorem Gd.overMk {o C dx : Addr} {c : Str} (gd : Gd X p lk L σ H e st ws) (ho : H o = none) (hdx : H dx = none) (hne : dx ≠ o) (hm : X.mg c = some (.ref C)) : ∃ (S : Addr → Prop) (A0 : List Addr), A0.Nodup ∧ A0 = [o] ∧
    (∀ a, S a → domP (upd (upd H dx (.own o)) o (.ins C dx [])) a ∧ a ∉ A0) ∧ Rp (zoI X.K X.mg S A0 (upd (upd H dx (.own o)) o (.ins C dx []))) (upd (upd H dx (.own o)) o (.ins C dx [])) (.v (.ref o) (.ins .own c [])) A0 ∧
    (∀ v d, .v v d ∈ ws → Rp (zoI X.K X.mg S A0 (upd (upd H dx (.own o)) o (.ins C dx []))) (upd (upd H dx (.own o)) o (.ins C dx [])) (.v v (lend d)) []) ∧
    (∀ v d, (v, d) ∈ st → allF noOwn d = true → Rp (zoI X.K X.mg S A0 (upd (upd H dx (.own o)) o (.ins C dx []))) (upd (upd H dx (.own o)) o (.ins C dx [])) (.v v (pasD d)) []) ∧
    (∀ a x u, (upd (upd H dx (.own o)) o (.ins C dx [])) a = some (.frz x u) → Lkb u) ∧
    ∀ {H' : Hp} {S' : Addr → Prop} {B A' : List Addr} {s : D}, OutI (upd (upd H dx (.own o)) o (.ins C dx [])) A0 S S' H' (A' ++ B) → allF noRo s = true → Rp (zo0 X.K X.mg S' (fun _ => False) (upd (upd H dx (.own o)) o (.ins C dx []))) H' (.v (.ref o) s) A' →
      ∀ {g : Sg}, allS noRo g = true → Rp (zo0 X.K X.mg S' (fun _ => False) (upd (upd H dx (.own o)) o (.ins C dx []))) H' g B → ∀ {front : Stk}, (∀ z G, Rp z G g B → RpS z G front B) → Gd X p lk L σ H' e (front ++ (.ref o, s) :: st) ws := by
  obtain ⟨S, G, A, B, g⟩ := gd
  have wr : ∀ v d, .v v d ∈ ws → Rp (zW X.K X.mg H) H (.v v d) [] := fun v d hw => by
    have r : Rp (zW X.K X.mg G) G (.v v d) [] := g.wk _ hw
    rw [g.hL]
    exact r.wmono rfl fun _ _ => lockAll_rd g.lkd
  have nfl0 := Gd.nfl ⟨S, G, A, B, g⟩
  have g1 := g.newO hdx (.own o)
  have hGo : G o = none := (g.free ho).1
  have hGdx : G dx = none := (g.free hdx).1
  have ho1 : upd H dx (.own o) o = none := by rw [upd_ne (Ne.symm hne)]; exact ho
  obtain ⟨f1, f2, f3, f4, f5, f6, f7⟩ := g1.free ho1
  -- the instance is pending
  have g2 : GdB X p lk L σ (upd (upd H dx (.own o)) o (.ins C dx [])) e ((.ref o, .ins .own c []) :: st) ws S (upd (upd G dx (.own o)) o (.ins C dx [])) A ([o] ++ B) := by
    have g3 := g1.newO ho1 (.ins C dx [])
    have r : Rp (zo X p S lk) (upd (upd G dx (.own o)) o (.ins C dx [])) (.v (.ref o) (.ins .own c [])) [o] := Rp.ins (f := .own) (A := []) upd_same f3 hm .snil
    refine ⟨g3.ok, g3.hL, g3.lkd, g3.lkz, g3.lke, g3.env, .cons r g3.stk, g3.wk, nodup_new g3.nd f6, fun b hb => ?_, fun b hb => ?_, g3.s0, g3.sd, g3.fr, g3.oo, g3.pin, g3.nf⟩
    · rcases (show b = o ∨ b ∈ A ++ B by simp only [List.mem_append, List.mem_singleton] at hb ⊢; rcases hb with h | h | h; exact .inr (.inl h); exact .inl h; exact .inr (.inr h)) with rfl | h
      · exact ⟨f4, f5⟩
      · exact g3.dj b h
    · rcases (show b = o ∨ b ∈ A ++ B by simp only [List.mem_append, List.mem_singleton] at hb ⊢; rcases hb with h | h | h; exact .inr (.inl h); exact .inl h; exact .inr (.inr h)) with rfl | h
      · exact .inl f7
      · exact g3.ow b h
  have oldR : ∀ a u, Rd G a u → Rd (upd (upd G dx (.own o)) o (.ins C dx [])) a u ∧ a ≠ o := fun a u h => by
    have hao : a ≠ o := by rintro rfl; obtain ⟨w, q⟩ := rd_dom h; rw [hGo] at q; cases q
    have had : a ≠ dx := by rintro rfl; obtain ⟨w, q⟩ := rd_dom h; rw [hGdx] at q; cases q
    exact ⟨by rw [Rd, upd_ne hao, upd_ne had]; exact h, hao⟩
  obtain ⟨S2, A0, h1, h2, h3, h4, h5, h6⟩ := g2.overI rfl fun A0 r w hw G' k => by
    have eA : A0 = [o] := by
      obtain ⟨a, C', dx', fs', B', e1, at0, _, _, rs, eA⟩ := Rp.ins_inv r
      cases e1
      cases rs
      exact eA
    subst eA
    exact (g.wk w hw).mono fun a u r => k a u (oldR a u r).1 (by simpa using (oldR a u r).2)
  have eA : A0 = [o] := by
    obtain ⟨a, C', dx', fs', B', e1, at0, _, _, rs, eA⟩ := Rp.ins_inv (show Rp _ _ (.v (.ref o) (.ins .own c [])) A0 from h3)
    cases e1
    cases rs
    exact eA
  subst eA
  refine ⟨S2, [o], h1, rfl, h2, h3, fun v d hw => ?_, h4, Gd.nfl ⟨S, _, A, _, g2⟩, h6⟩
  have w := wr v d hw
  have hH : ∀ a, (∃ u, H a = some u) → a ≠ o ∧ a ≠ dx := fun a ⟨u, q⟩ => ⟨(by rintro rfl; rw [ho] at q; cases q), (by rintro rfl; rw [hdx] at q; cases q)⟩
  have key : Rp ⟨X.K, X.mg, fun _ => False, fun a => ∃ u, H a = some u, H, []⟩ (upd (upd H dx (.own o)) o (.ins C dx [])) (.v v d) [] :=
    Rp.mono w ⟨rfl, rfl, fun _ h => h, fun _ h => h, fun _ h => h.elim, rfl⟩ (.of fun a u h => by
      obtain ⟨n1, n2⟩ := hH a (rd_dom h)
      rw [Rd, upd_ne n1, upd_ne n2]; exact h) fun a h => by cases h
  exact key.remark (P := fun _ => true) (m := fun _ => .ro) rfl rfl (allF_true d) fun f a _ fo hu hq => ⟨rfl, by
    have hd : ∃ u, H a = some u := by
      cases f with
      | own => exact absurd (hq a (by simp [FlA])) (by simp)
      | lk => cases fo
      | fr => exact fo.1.elim
      | sh => exact fo.elim
      | ro => exact fo
    obtain ⟨n1, n2⟩ := hH a hd
    obtain ⟨u, hu2⟩ := hd
    exact ⟨⟨u, by rw [upd_ne n1, upd_ne n2]; exact hu2⟩, by simpa using n1⟩⟩
end
end DG

set_option Elab.async false
set_option linter.all false
set_option maxHeartbeats 4000000
/-! DIj: the body of a def that changes its first argument; instances made; methods. -/
namespace DG
open PySem PySem.Spec PyProof.Rows L2
set_option autoImplicit false
def selfI (d : D) (e : Env) : FResI := match e[0]? with
  | some (some s) => if allF noRo d && allF noRo s then .ok d s else .bad
  | _ => .bad
def fnResI : Res Fw → FResI
  | .ok (.ret d) e => selfI d e
  | .ok .next e => selfI .non e
  | .ok _ _ => .bad
  | .exc c fs e => (match e[0]? with
    | some (some s) => if allFS noRo fs && allF noRo s then .exc c fs s else .bad
    | _ => .bad)
  | .bad => .bad
def fnRunI (n : Nat) (body : M Fw) (ds : List D) : FResI := if ds.length ≤ n then fnResI (body (ds.map some ++ List.replicate (n - ds.length) none)) else .bad
section
variable {K : Kx} {H : Hp} {S0 : Addr → Prop} {A0 : List Addr} {nl : List Nat} {v0 : V} {σ' : L2.St} {H' : Hp} {e' : Env}
abbrev parI (H : Hp) (S0 : Addr → Prop) (A0 : List Addr) (v0 : V) (nl : List Nat) : Par := ⟨H, S0, fun a => domP H a ∧ a ∉ A0, A0, some v0, nl⟩
theorem GdB.finI {st : Stk} {S : Addr → Prop} {G : Hp} {A B : List Addr} {s : D} (g : GdB K (parI H S0 A0 v0 nl) [] ⟨[], []⟩ σ' H' e' st [] S G A B) (he : e'[0]? = some (some s)) (hs : allF noRo s = true) :
    ∃ A', OutI H A0 S0 S H' (A' ++ B) ∧ Rp (zo0 K.K K.mg S (fun _ => False) H) H' (.v v0 s) A' ∧ ∀ {sg : Sg}, allS noRo sg = true → (∀ z G, RpS z G st B → Rp z G sg B) → Rp (zo0 K.K K.mg S (fun _ => False) H) H' sg B := by
  have hG : H' = G := by rw [g.hL, lockAll_nil]
  subst hG
  obtain ⟨v, A1, A2, h1, h2, h3, h4⟩ := g.env.split he
  have hv : v = v0 := by
    have := g.pin v0 rfl
    rw [h1] at this
    exact Option.some.inj (Option.some.inj this)
  subst hv
  have sub : ∀ a ∈ A1 ++ B, a ∈ A ++ B := fun a ha => (List.mem_append.mp ha).elim (fun z => List.mem_append_left _ (h3.mem_iff.mpr (List.mem_append_left _ z))) fun z => List.mem_append_right _ z
  have hp : (A ++ B).Perm (A2 ++ (A1 ++ B)) := (List.Perm.append_right B h3).trans (List.perm_iff_count.mpr fun x => by simp only [List.count_append]; omega)
  refine ⟨A1, ⟨fun a o h hn => g.fr a o h hn, fun a ha => g.oo a ha, g.s0, fun a ha => g.sd a ha, (List.nodup_append.mp (hp.nodup_iff.mp g.nd)).2.1, fun a ha => ⟨g.ow a (sub a ha), (g.dj a (sub a ha)).1⟩, fun a ha => g.nf a ha⟩, ?_, fun hr hs => ?_⟩
  · exact h2.noR hs rfl rfl (fun _ h => h) (fun _ _ h => h) fun _ _ h => by cases h
  · exact (hs _ _ g.stk).noR hr rfl rfl (fun _ h => h) (fun _ _ h => h) fun _ _ h => by cases h
end
theorem env_startI {z : Zo} {H : Hp} {v0 : V} {d0 : D} {A0 : List Addr} {vs : List V} {ds : List D} (n : Nat) (h0 : Rp z H (.v v0 d0) A0) (hl : vs.length = ds.length) (h : ∀ w ∈ vs.zip ds, Rp z H (.v w.1 w.2) []) :
    RpE z H ((v0 :: vs).map some ++ List.replicate n none) ((d0 :: ds).map some ++ List.replicate n none) A0 := by
  have := RpE.cons h0 (env_start n hl h)
  rw [List.append_nil] at this
  exact this
theorem fn_bodyI {P : Program} {w : World} {K : PySem.W.Frag} {mg : Str → Option Value} {base : Heap} {k n : Nat} {nl : List Nat} {fa : Addr} {x qual : Str} {st : Stmt} {fd : FuncData} {N ps : List Str} {fb : M Fw} (Fn : Fun K x qual st fa fd) (S : FnScope N ps (defScope st)) (hn : ps.length = n)
    (hbody : ∀ (X : Cx) (p : Par) (W : WX), BodyCx P w K mg base N (defScope st) k X W → p.nl = nl → PSs X (defBody st) (tS X p W fb)) :
    FnOk P w K mg base (L2.CX P w) (k + 1) fa fd ps (spI K mg n (fnRunI N.length fb)) := by
  obtain ⟨oc, od, kV, doc, pm, an, cdv, ct, osl, rfl, lk, hcd⟩ := Fn.ex
  refine fn_of lk hcd S (fun vs H Q E ⟨v0, vs', d0, ds', S0, A0, h1, h2, h3, _⟩ => by rw [h1, List.length_cons, h2, h3, hn]) fun A outer s H vs Q E hr ⟨v0, vs', d0, ds', S0, A0, hv, hl, hn2, hS, hft, hnd, hr0, hrp, q⟩ => ?_
  subst hv
  let X : Cx := cxOf (L2.CX P w) P w K mg base N qual (defScope st) fa cdv A outer s H E
  let p : Par := parI H S0 A0 v0 nl
  let W : WX := fun cls d _ H => E cls d H
  have B : BodyCx P w K mg base N (defScope st) k X W := ⟨rfl, rfl, rfl, rfl, rfl, rfl, rfl, hr, rfl, fun _ => rfl, passes_of rfl, takes_of rfl rfl rfl rfl, rfl, rfl⟩
  refine ⟨tS X p W fb, hbody X p W B rfl, ?_⟩
  unfold fnRunI at q
  by_cases hlen : (d0 :: ds').length ≤ N.length
  case neg => rw [if_neg hlen] at q; exact False.elim q
  rw [if_pos hlen] at q
  have dm : ∀ a ∈ A0, ∃ u, H a = some u ∧ Mut (some u) := fun a h => hr0.dom a h
  have g0 : Gd X p [] ⟨[], []⟩ (start N (v0 :: vs')) H ((d0 :: ds').map some ++ List.replicate (N.length - (d0 :: ds').length) none) [] [] := by
    refine ⟨S0, H, A0, [], ⟨⟨fun a h => hS a h, fun a h => h, dm, hft⟩, (lockAll_nil H).symm, ⟨fun a od q => (by cases q), fun a o q => (by cases q)⟩, fun a od q => (by cases q), fun a h => (by cases h), ?_, .nil, fun w hw => (by cases hw), by rw [List.append_nil]; exact hnd, fun a h => ?_, fun a h => ?_, fun a h => h, fun a h => ⟨.inl h, (hS a h).1⟩, fun a o h _ => h, fun a h => let ⟨u, hu, _⟩ := dm a h; ⟨u, hu⟩, fun v h => ?_, fun a h x u z => ?_⟩⟩
    · have := env_startI (N.length - (d0 :: ds').length) hr0 hl hrp
      show RpE _ H ((v0 :: vs').map some ++ List.replicate (N.length - (v0 :: vs').length) none) _ A0
      rw [show (v0 :: vs').length = (d0 :: ds').length by simp [hl]]
      exact this
    · rw [List.append_nil] at h
      exact ⟨fun z => (hS a z).2 h, fun z => z.2 h⟩
    · rw [List.append_nil] at h
      exact .inr h
    · cases h; rfl
    · rcases h with h | h
      · have h : H a = none := h
        rw [h] at z; cases z
      · obtain ⟨u', hu, mu⟩ := dm a h
        rw [hu] at z; cases z; exact mu
  refine ⟨[], ⟨[], []⟩, _, [], g0, ?_⟩
  generalize (d0 :: ds').map some ++ List.replicate (N.length - (d0 :: ds').length) none = e0 at q ⊢
  have finish : ∀ {v : V} {d : D} {σ' : L2.St} {H' : Hp} {e' : Env}, (match selfI d e' with
      | .ok d s => allF noRo d = true → allF noRo s = true → ∀ v H' S' B A', OutI H A0 S0 S' H' (A' ++ B) → Rp (zo0 K mg S' (fun _ => False) H) H' (.v v d) B → Rp (zo0 K mg S' (fun _ => False) H) H' (.v v0 s) A' → Q v H'
      | .exc c fs s => True
      | .bad => False) → Gd X p [] ⟨[], []⟩ σ' H' e' [(v, d)] [] → Q v H' := fun {v d σ' H' e'} q g => by
    unfold selfI at q
    cases he : e'[0]? with
    | none => rw [he] at q; exact q.elim
    | some o =>
      cases o with
      | none => rw [he] at q; exact q.elim
      | some s =>
        rw [he] at q
        dsimp only at q
        by_cases hz : (allF noRo d && allF noRo s) = true
        case neg => rw [if_neg hz] at q; exact q.elim
        rw [if_pos hz] at q
        obtain ⟨z1, z2⟩ := Bool.and_eq_true_iff.mp hz
        obtain ⟨S', G, A', B', g⟩ := g
        obtain ⟨A1, o1, o2, o3⟩ := g.finI he z2
        exact q z1 z2 v H' S' B' A1 o1 (o3 (sg := .v v d) z1 fun z G r => r.one) o2
  cases hb : fb e0 with
  | bad => rw [hb] at q; exact q
  | exc c fs e' =>
    rw [hb] at q
    unfold fnResI at q
    dsimp only at q
    refine fun σ cls d H' ⟨hc, h⟩ => ?_
    cases he : e'[0]? with
    | none => rw [he] at q; exact q.elim
    | some o =>
      cases o with
      | none => rw [he] at q; exact q.elim
      | some s =>
        rw [he] at q
        dsimp only at q
        by_cases hz : (allFS noRo fs && allF noRo s) = true
        case neg => rw [if_neg hz] at q; exact q.elim
        rw [if_pos hz] at q
        obtain ⟨z1, z2⟩ := Bool.and_eq_true_iff.mp hz
        rcases h with ⟨rfl, rfl, h⟩ | ⟨dd, fv, rfl, h0, h1, h2, h⟩
        · obtain ⟨S', G, A', B', g⟩ := h
          obtain ⟨A1, o1, o2, o3⟩ := g.finI he z2
          cases hs : g.stk
          exact q z1 z2 cls none H' S' [] A1 hc o1 (.inl ⟨rfl, rfl, rfl⟩) o2
        · rw [List.append_nil] at h
          obtain ⟨S', G, A', B', g⟩ := h
          obtain ⟨A1, o1, o2, o3⟩ := g.finI he z2
          exact q z1 z2 cls _ H' S' B' A1 hc o1 (.inr ⟨dd, fv, rfl, h0, h1, o3 (sg := .s fv fs) z1 fun z G r => r.toK h2⟩) o2
  | ok fl e' =>
    rw [hb] at q
    cases fl with
    | ret d =>
      refine fun v σ' H' g => finish (d := d) (e' := e') ?_ g
      unfold fnResI at q
      dsimp only at q
      revert q
      cases hq : selfI d e' with
      | ok d s => exact fun q => q
      | exc c fs s => exact fun _ => trivial
      | bad => exact fun q => q
    | next =>
      refine fun σ' H' g => finish (v := .non) (d := .non) (e' := e') ?_ (g.push fun z G _ _ => .non)
      unfold fnResI at q
      dsimp only at q
      revert q
      cases hq : selfI .non e' with
      | ok d s => exact fun q => q
      | exc c fs s => exact fun _ => trivial
      | bad => exact fun q => q
    | brk => exact False.elim q
    | cont => exact False.elim q
end DG

set_option Elab.async false
set_option linter.all false
set_option maxHeartbeats 4000000
/-! DIk: instances made, methods called; what is raised is wished for at the caller's slots. -/
namespace L2
open PySem PySem.Spec PyProof.Rows
section
variable {X : Cx} {CX : CXT} {k : Nat} {f C : Addr} {fd : FuncData} {ps : List Str} {sp : Sp} {E : St → XK} {x m : Str} {p pos apos : Pos} {e o : Expr} {es : List Expr} {ta : TE} {t : TA}
def tMakeS (C : Addr) (sp : Sp) (E : St → XK) (t : TA) : TE := fun σ H Q => t σ H fun vs H1 => ∀ x dx, H1 x = none → H1 dx = none → dx ≠ x →
  sp (.ref x :: vs) (upd (upd H1 dx (.own x)) x (.ins C dx [])) (fun v H2 => v = .non ∧ Q (.ref x) H2) (E σ)
theorem run_makeSG {pins : List (Addr × Obj)} {σ : St} {H : Hp} {s : Shared} {Q : VK} {us : List Value} {vs : List V} (M : Mk X.K C f) (F : FnOk X.prog X.w X.K X.mg X.base CX k f fd ps sp) (hr : Room (k + 1) X.A) (hb : Binds X.K fd ps [])
    (hx : PassesAt CX X σ (E σ)) (I : Inv X pins σ H s) (r : Vals vs us)
    (h : ∀ x dx, H x = none → H dx = none → dx ≠ x → sp (.ref x :: vs) (upd (upd H dx (.own x)) x (.ins C dx [])) (fun v H2 => v = .non ∧ Q (.ref x) H2) (E σ)) :
    wpAny (model X.prog X.w) X.A (call (.ref C) us) (EP X pins σ Q) X.xe s := by
  have hq := h (s.heap.objs.size + 1) s.heap.objs.size (I.hok.fresh (Nat.le_succ _)) (I.hok.fresh (Nat.le_refl _)) (Nat.ne_of_lt (Nat.lt_succ_self _))
  have I2 := Inv.made (C := C) I
  have r2 : Vals (V.ref (s.heap.objs.size + 1) :: vs) (Value.ref (s.heap.objs.size + 1) :: us) := .cons rfl r
  have hl : (Value.ref (s.heap.objs.size + 1) :: us ++ []).length = ps.length := by
    have e := r2.length
    rw [F.len _ _ _ _ hq] at e
    rw [List.append_nil]
    exact e.symm
  refine wpAny_call (make_map (f := f) I.kIn M.makes M.init (beq_iff_eq.mp M.fn) (codeAny_mono (F.run _ X.stack _ _ ⟨Value.ref (s.heap.objs.size + 1) :: us, []⟩ (Value.ref (s.heap.objs.size + 1) :: us) _ _ (E σ) (hr.make C us [])
    (I2.env0.make C us []) (by have b := hb _ (Value.ref (s.heap.objs.size + 1) :: us) I2.kIn hl; rw [List.append_nil] at b; exact b) r2 hq) fun r s' hq' => ?_))
  cases r with
  | error e => exact hx pins _ _ e s' I2 hq'
  | ok fl =>
    cases fl with
    | ret u =>
      obtain ⟨v, H', I3, rv, ev, q3⟩ := I2.after hq'
      subst ev
      exact ⟨rv, ⟨V.ref (s.heap.objs.size + 1), H', I3, rfl, q3⟩⟩
    | next => exact False.elim hq'
    | brk => exact False.elim hq'
    | cont => exact False.elim hq'
theorem pe_makeSG (M : Mk X.K C f) (F : FnOk X.prog X.w X.K X.mg X.base CX k f fd ps sp) (hr : Room (k + 1) X.A) (hg : Gl X x) (hm : X.mg x = some (.ref C)) (hb : Binds X.K fd ps []) (hx : ∀ σ, PassesAt CX X σ (E σ))
    (ha : PA X (e :: es) t) (hdb : (x == ("__debug__" : Str)) = false) (he : starEach (e :: es) X.env = (false, eval e X.env) :: starEach es X.env) (hpl : (backTo pos (starEach es X.env)).any (·.1) = false) :
    PE X (.Call (.Name x p) (e :: es) [] pos) (tMakeS C sp E t) := by
  refine ⟨fun pins s σ H Q I h => ?_⟩
  refine wpAny_Call_Name_kw (ld_glob I hg hm ?_ hdb)
  refine PySem.W.callWith_K (h₀ := X.base) I.ok.mod.kin M.kp (thn (ha.run pos pins s σ H _ I h) fun us s1 ⟨vs, H1, I1, r, q⟩ => ⟨I1.kIn, ?_⟩) he hpl
  exact run_makeSG M F hr hb (hx σ) I1 r q
theorem pe_makeSG0 (M : Mk X.K C f) (F : FnOk X.prog X.w X.K X.mg X.base CX k f fd ps sp) (hr : Room (k + 1) X.A) (hg : Gl X x) (hm : X.mg x = some (.ref C)) (hb : Binds X.K fd ps []) (hx : ∀ σ, PassesAt CX X σ (E σ))
    (hdb : (x == ("__debug__" : Str)) = false) : PE X (.Call (.Name x p) [] [] pos) (tMakeS C sp E tNil) := by
  refine ⟨fun pins s σ H Q I h => ?_⟩
  refine wpAny_Call_Name_kw (ld_glob I hg hm ?_ hdb)
  exact PySem.W.callWith_K0 I.kIn M.kp (run_makeSG (us := []) M F hr hb (hx σ) I .nil h)
def tMethG (K : PySem.W.Frag) (P : Program) (w : World) (mg : Str → Option Value) (base : Heap) (m : Str) (k : Nat) (sp : Sp) (E : St → XK) (ta : TE) (t : TA) : TE := fun σ H Q => ta σ H fun x H1 => ∃ a C dx fs, x = .ref a ∧ H1 a = some (.ins C dx fs) ∧ fs.lookup m = none ∧
  Cls K C ∧ (∃ f fd ps, Meth K C m f ∧ FnOk P w K mg base (L2.CX P w) k f fd ps sp ∧ Binds K fd ps []) ∧ t σ H1 fun vs H2 => sp (x :: vs) H2 Q (E σ)
theorem pe_methSG {pl : Sem Bool} (he : PE X o ta) (hr : Room k X.A) (hx : ∀ σ, PassesAt (L2.CX X.prog X.w) X σ (E σ)) (ha : PA X (e :: es) t)
    (hst : starEach (e :: es) X.env = (false, eval e X.env) :: starEach es X.env) (hpl : (backTo pos (starEach es X.env)).any (·.1) = false)
    (ht : eval (.Call (.Attribute o m apos) (e :: es) [] pos) X.env = (do
      let ov ← eval o X.env
      standAt apos.atName
      let (f, first) ← holding [ov] (getMethod ov m pl)
      callWith pos f first (backTo pos (starEach (e :: es) X.env)) (backToKw pos (keywordEach [] X.env)))) :
    PE X (.Call (.Attribute o m apos) (e :: es) [] pos) (tMethG X.K X.prog X.w X.mg X.base m k sp E ta t) := by
  refine ⟨fun pins s σ H Q I h => ?_⟩
  refine PySem.W.methodCall_KW (pl := pl) (thn (he.run pins s σ H _ I h) fun u s1 ⟨x, H1, I1, rx, a, C, dx, fs, ex, ea, l, c, ⟨f, fd, ps, hm, F, hb⟩, q⟩ => ?_) ht
  subst ex
  obtain rfl : u = Value.ref a := rx
  refine getmeth_ok I1 ea c hm l ?_
  refine PySem.W.callWith_K (first := [.ref a]) (h₀ := X.base) I.ok.mod.kin hm.kp (thn (ha.run pos pins s1 σ H1 _ I1 q) fun us s2 ⟨vs, H2, I2, r, q2⟩ => ⟨I2.kIn, ?_⟩) hst hpl
  exact run_fnS (E := E) (us := .ref a :: us) (vs := .ref a :: vs) F hr hb (hx σ) I2 (.cons rfl r) q2
theorem pe_methSG0 {pl : Sem Bool} (he : PE X o ta) (hr : Room k X.A) (hx : ∀ σ, PassesAt (L2.CX X.prog X.w) X σ (E σ))
    (ht : eval (.Call (.Attribute o m apos) [] [] pos) X.env = (do
      let ov ← eval o X.env
      standAt apos.atName
      let (f, first) ← holding [ov] (getMethod ov m pl)
      callWith pos f first (backTo pos (starEach [] X.env)) (backToKw pos (keywordEach [] X.env)))) :
    PE X (.Call (.Attribute o m apos) [] [] pos) (tMethG X.K X.prog X.w X.mg X.base m k sp E ta tNil) := by
  refine ⟨fun pins s σ H Q I h => ?_⟩
  refine PySem.W.methodCall_KW (pl := pl) (thn (he.run pins s σ H _ I h) fun u s1 ⟨x, H1, I1, rx, a, C, dx, fs, ex, ea, l, c, ⟨f, fd, ps, hm, F, hb⟩, q⟩ => ?_) ht
  subst ex
  obtain rfl : u = Value.ref a := rx
  refine getmeth_ok I1 ea c hm l ?_
  exact PySem.W.callWith_K0 (first := [.ref a]) I1.kIn hm.kp (run_fnS (E := E) (us := [.ref a]) (vs := [.ref a]) F hr hb (hx σ) I1 (.cons rfl .nil) q)
end
end L2
namespace DG
open PySem PySem.Spec PyProof.Rows L2
set_option autoImplicit false
/-- the class c may be made: its __init__ keeps spI n F -/
structure MkOk (X : Cx) (k : Nat) (c : Str) (n : Nat) (F : List D → FResI) : Prop where
  ex : ∃ C f fd ps, Mk X.K C f ∧ FnOk X.prog X.w X.K X.mg X.base (L2.CX X.prog X.w) k f fd ps (spI X.K X.mg n F) ∧ X.mg c = some (.ref C) ∧ Binds X.K fd ps []
def mkR (F : List D → FResI) (c : Str) (ds : List D) : M D := fun e => match F (.ins .own c [] :: ds) with
  | .ok .non s => .ok s e
  | .ok _ _ => .bad
  | .exc cc fs _ => .exc cc fs e
  | .bad => .bad
def mkM (c : Str) (n : Nat) (F : List D → FResI) (r : M (List D)) : M D := r.bind fun ds => if ds.length + 1 = n then mkR F c (mapFL (fun _ => .ro) ds) else .bad
/-- .. its arguments frozen, to be kept -/
def mkH (c : Str) (n : Nat) (F : List D → FResI) (r : M (List D)) : M D := r.bind fun ds => if ds.length + 1 = n ∧ allFL noOwn ds = true then mkR F c (mapFL pasF ds) else .bad
section
variable {X : Cx} {p : Par} {W : WX} {lk : List Addr} {L : Lk} {σ : L2.St} {H : Hp} {e : Env} {st : Stk} {ws : List Wk} {a b c : Expr} {pos : Pos} {f g h : M D} {fp : M (Nat × Pth)}
theorem zip_mapFL {m : Fl → Fl} : ∀ {vs : List V} {ds : List D} {w : V × D}, w ∈ vs.zip (mapFL m ds) → ∃ d, (w.1, d) ∈ vs.zip ds ∧ w.2 = mapF m d
  | [], _, _, h => by simp at h
  | _ :: _, [], _, h => by simp [mapFL] at h
  | v :: vs, d :: ds, w, h => by
    rw [mapFL, List.zip_cons_cons] at h
    rcases List.mem_cons.mp h with h | h
    · subst h; exact ⟨d, by simp, rfl⟩
    · obtain ⟨d', h1, h2⟩ := zip_mapFL h
      exact ⟨d', by rw [List.zip_cons_cons]; exact List.mem_cons_of_mem _ h1, h2⟩
theorem mapFL_length {m : Fl → Fl} : ∀ ds : List D, (mapFL m ds).length = ds.length
  | [] => rfl
  | d :: ds => by rw [mapFL, List.length_cons, List.length_cons, mapFL_length ds]
theorem mk_imp {C : Addr} {cn : Str} {n : Nat} {F : List D → FResI} {vs : List V} {ds : List D} {Q : VK} (g : Gd X p lk L σ H e st ws) (hm : X.mg cn = some (.ref C)) (hl : vs.length = ds.length) (hn : ds.length + 1 = n)
    (har : ∀ {o dx : Addr} {S : Addr → Prop} {A0 : List Addr} (k1 : ∀ v d, .v v d ∈ ws → Rp (zoI X.K X.mg S A0 (upd (upd H dx (.own o)) o (.ins C dx []))) (upd (upd H dx (.own o)) o (.ins C dx [])) (.v v (lend d)) [])
      (k2 : ∀ v d, (v, d) ∈ st → allF noOwn d = true → Rp (zoI X.K X.mg S A0 (upd (upd H dx (.own o)) o (.ins C dx []))) (upd (upd H dx (.own o)) o (.ins C dx [])) (.v v (pasD d)) []), ∀ w ∈ vs.zip ds, Rp (zoI X.K X.mg S A0 (upd (upd H dx (.own o)) o (.ins C dx []))) (upd (upd H dx (.own o)) o (.ins C dx [])) (.v w.1 w.2) [])
    (q : (mkR F cn ds e).run (fun d e' => ∀ v H', Gd X p lk L σ H' e' ((v, d) :: st) ws → Q v H') (fun c fs e' => ∀ cls d H', X.mg c = some cls → ((fs = [] ∧ d = none ∧ Gd X p lk L σ H' e' st ws) ∨ ∃ dd fv, d = some dd ∧ p.H0 dd = none ∧ H' dd = some (.xd fv) ∧ fv.map (·.1) = fs.map (·.1) ∧ Gd X p lk L σ H' e' ((fv.map (·.2)).zip (fs.map (·.2)) ++ st) ws) → W cls d σ H')) :
    ∀ o dx, H o = none → H dx = none → dx ≠ o → spI X.K X.mg n F (.ref o :: vs) (upd (upd H dx (.own o)) o (.ins C dx [])) (fun v H2 => v = .non ∧ Q (.ref o) H2) (WE W σ) := fun o dx ho hdx hne => by
  obtain ⟨S, A0, h1, eA, h2, h3, h4, h5, h6, out⟩ := g.overMk ho hdx hne hm
  refine ⟨.ref o, vs, .ins .own cn [], ds, S, A0, rfl, hl, hn, h2, h6, h1, h3, har h4 h5, ?_⟩
  unfold mkR at q
  cases hF : F (.ins .own cn [] :: ds) with
  | bad => rw [hF] at q; exact q
  | ok d s =>
    rw [hF] at q
    cases d with
    | non =>
      intro _ z2 v H' S' B A' oi r1 r2
      have hv : v = .non ∧ B = [] := by cases r1; exact ⟨rfl, rfl⟩
      obtain ⟨rfl, rfl⟩ := hv
      exact ⟨rfl, q _ _ (out oi z2 r2 (g := .v .non .non) rfl r1 (front := []) fun z G _ => .nil)⟩
    | _ => exact False.elim q
  | exc cc fs s =>
    rw [hF] at q
    intro z1 z2 cls dd H' S' B A' hc oi r1 r2
    refine q cls dd H' hc ?_
    rcases r1 with ⟨rfl, rfl, rfl⟩ | ⟨d, fv, rfl, d0, hd, r⟩
    · exact .inl ⟨rfl, rfl, (out oi z2 r2 (g := .v .non .non) rfl .non (front := []) fun z G _ => .nil).drop⟩
    · have d1 : H d = none := by
        by_cases z : d = o
        · subst z; exact ho
        · rw [upd_ne z] at d0
          by_cases z2 : d = dx
          · subst z2; exact hdx
          · rw [upd_ne z2] at d0; exact d0
      refine .inr ⟨d, fv, rfl, g.new0 d1, hd, (Rp.toS (B := []) r).2, ?_⟩
      have g2 := out oi z2 r2 (g := .s fv fs) z1 r (front := (fv.map (·.2)).zip (fs.map (·.2))) fun z G r => (Rp.toS (B := []) r).1
      exact (g2.perm List.perm_middle).drop
theorem exw {cc : Str} {fs : List (Str × D)} {e' : Env} (h : XW X p W lk L σ st cc fs e') : ∀ cls d H', X.mg cc = some cls → ((fs = [] ∧ d = none ∧ Gd X p lk L σ H' e' st ws) ∨ ∃ dd fv, d = some dd ∧ p.H0 dd = none ∧ H' dd = some (.xd fv) ∧ fv.map (·.1) = fs.map (·.1) ∧ Gd X p lk L σ H' e' ((fv.map (·.2)).zip (fs.map (·.2)) ++ st) ws) → W cls d σ H' := fun cls d H' hm hx => h cls d H' ⟨hm, hx.elim (fun ⟨a, b, g⟩ => .inl ⟨a, b, g.subW fun w hw => by cases hw⟩) fun ⟨dd, fv, a, b, c, d, g⟩ => .inr ⟨dd, fv, a, b, c, d, g.subW fun w hw => by cases hw⟩⟩
theorem pe_mkM {x : Str} {k n : Nat} {F : List D → FResI} {p1 : Pos} {es : List Expr} {r : M (List D)} (K : MkOk X k x n F) (hr : Room (k + 1) X.A) (hg : Gl X x) (tk : Takes X W) (ha : PA X (a :: es) (tAW X p W r)) (hdb : (x == ("__debug__" : Str)) = false)
    (he : starEach (a :: es) X.env = (false, eval a X.env) :: starEach es X.env) (hpl : (backTo pos (starEach es X.env)).any (·.1) = false) : PE X (.Call (.Name x p1) (a :: es) [] pos) (tV X p W (mkM x n F r)) := by
  obtain ⟨C, fi, fd, ps, Mc, Fn, hm, hb⟩ := K.ex
  refine PEmono (pe_makeSG Mc Fn hr hg hm hb (fun σ => passAt tk σ) ha hdb he hpl) fun σ H Q q => tR_mono (tR_bind q) fun lk L e st ws ds q vs H1 hl g1 => ?_
  by_cases hn : ds.length + 1 = n
  case neg => rw [if_neg hn] at q; exact False.elim q
  rw [if_pos hn] at q
  refine mk_imp (ds := mapFL (fun _ => .ro) ds) (cn := x) g1 hm (by rw [mapFL_length]; exact hl) (by rw [mapFL_length]; exact hn) (fun {o dx S A0} k1 k2 w hw => ?_) (Res.run_mono q (fun d e' q v H' g => q v H' (g.subW fun w hw => List.mem_append_right _ hw)) fun c fs e' z => exw z)
  obtain ⟨d, h1, h2⟩ := zip_mapFL hw
  rw [h2]
  exact k1 _ _ (List.mem_append_left _ (List.mem_map.mpr ⟨_, h1, rfl⟩))
theorem pe_mkM0 {x : Str} {k n : Nat} {F : List D → FResI} {p1 : Pos} (K : MkOk X k x n F) (hr : Room (k + 1) X.A) (hg : Gl X x) (tk : Takes X W) (hdb : (x == ("__debug__" : Str)) = false) : PE X (.Call (.Name x p1) [] [] pos) (tV X p W (mkM x n F (.ret []))) := by
  obtain ⟨C, fi, fd, ps, Mc, Fn, hm, hb⟩ := K.ex
  refine PEmono (pe_makeSG0 Mc Fn hr hg hm hb (fun σ => passAt tk σ) hdb) fun σ H Q ⟨lk, L, e, st, ws, g, q⟩ => ?_
  replace q : ((if ([] : List D).length + 1 = n then mkR F x (mapFL (fun _ => .ro) []) else .bad : M D) e).run _ _ := q
  by_cases hn : ([] : List D).length + 1 = n
  case neg => rw [if_neg hn] at q; exact False.elim q
  rw [if_pos hn] at q
  exact mk_imp (vs := []) (ds := []) (cn := x) g hm rfl hn (fun {o dx S A0} k1 k2 w hw => by cases hw) (Res.run_mono q (fun d e' q => q) fun c fs e' z => exw z)
theorem pe_mkH {x : Str} {k n : Nat} {F : List D → FResI} {p1 : Pos} {es : List Expr} {r : M (List D)} (K : MkOk X k x n F) (hr : Room (k + 1) X.A) (hg : Gl X x) (tk : Takes X W) (ha : PA X (a :: es) (tAV X p W r)) (hdb : (x == ("__debug__" : Str)) = false)
    (he : starEach (a :: es) X.env = (false, eval a X.env) :: starEach es X.env) (hpl : (backTo pos (starEach es X.env)).any (·.1) = false) : PE X (.Call (.Name x p1) (a :: es) [] pos) (tV X p W (mkH x n F r)) := by
  obtain ⟨C, fi, fd, ps, Mc, Fn, hm, hb⟩ := K.ex
  refine PEmono (pe_makeSG Mc Fn hr hg hm hb (fun σ => passAt tk σ) ha hdb he hpl) fun σ H Q q => tR_mono (tR_bind q) fun lk L e st ws ds q vs H1 hl g1 => ?_
  by_cases hn : ds.length + 1 = n ∧ allFL noOwn ds = true
  case neg => rw [if_neg hn] at q; exact False.elim q
  rw [if_pos hn] at q
  have dropZ : ∀ {σ' : L2.St} {H' : Hp} {e' : Env} {vs : List V} {ds : List D} {front st : Stk} {ws : List Wk}, Gd X p lk L σ' H' e' (front ++ (vs.zip ds ++ st)) ws → Gd X p lk L σ' H' e' (front ++ st) ws := fun {σ' H' e' vs ds front st ws} g => by
    have : ∀ {zs : Stk}, Gd X p lk L σ' H' e' (front ++ (zs ++ st)) ws → Gd X p lk L σ' H' e' (front ++ st) ws := by
      intro zs
      induction zs with
      | nil => exact fun g => g
      | cons z zs ih => exact fun g => ih ((g.perm List.perm_middle).drop)
    exact this g
  refine mk_imp (ds := mapFL pasF ds) (cn := x) g1 hm (by rw [mapFL_length]; exact hl) (by rw [mapFL_length]; exact hn.1) (fun {o dx S A0} k1 k2 w hw => ?_) (Res.run_mono q (fun d e' q v H' g => q v H' (dropZ (front := [(v, d)]) g)) fun c fs e' z => exw (ws := ws) (fun cls d H' hx => z cls d H' ⟨hx.1, hx.2.elim (fun ⟨a, b, g⟩ => .inl ⟨a, b, dropZ (front := []) g⟩) fun ⟨dd, fv, a, b, c, d, g⟩ => .inr ⟨dd, fv, a, b, c, d, dropZ g⟩⟩))
  obtain ⟨d, h1, h2⟩ := zip_mapFL hw
  rw [h2]
  refine k2 _ _ (List.mem_append_left _ h1) ?_
  have hd : d ∈ ds := (List.of_mem_zip h1).2
  obtain ⟨i, hi⟩ := List.getElem?_of_mem hd
  exact allFL_get hn.2 hi
end
end DG

set_option Elab.async false
set_option linter.all false
set_option maxHeartbeats 4000000
/-! DIl: sorted. -/
namespace L2
open PySem PySem.Spec PyProof.Rows PySem.W
theorem each_of_vals : ∀ {vs : List V} {its : List Value} {ps : List PyData}, Vals vs its → vs.length = ps.length → EachIs (fun v (b : V × PyData) => RelV b.1 v) its (vs.zip ps)
  | [], [], [], _, _ => .nil
  | v :: vs, u :: us, p :: ps, .cons r rr, h => .cons r (each_of_vals rr (by simpa using h))
  | [], [], _ :: _, _, h => by simp at h
  | _ :: _, _, [], _, h => by simp at h
theorem vals_of_each : ∀ {out : List Value} {bs : List (V × PyData)}, EachIs (fun v (b : V × PyData) => RelV b.1 v) out bs → Vals (bs.map (·.1)) out
  | _, _, .nil => .nil
  | _, _, .cons r rr => .cons r (vals_of_each rr)
structure SrtQ (K : PySem.W.Frag) (vs : List V) (ps : List PyData) (H : Hp) (Q : VK) : Prop where
  len : vs.length = ps.length
  dp : ∀ b ∈ vs.zip ps, Dp K H b.1 b.2
  al : AllAlike ps
  so : Sortable ps
  de : ∀ d ∈ ps, d.depth ≤ 60
  q : ∀ p, H p = none → Q (.ref p) (upd H p (.lst (((vs.zip ps).mergeSort (dataLe false (·.2))).map (·.1))))
theorem SrtQ.snd {K : PySem.W.Frag} {vs : List V} {ps : List PyData} {H : Hp} {Q : VK} (h : SrtQ K vs ps H Q) : (vs.zip ps).map (·.2) = ps := List.map_snd_zip (Nat.le_of_eq h.len.symm)
section
variable {X : Cx}
theorem cr_sortL (hu : X.A.units + 65 < cLine) : CallR X (.builtin "sorted") (fun xs H Q => ∃ (a : Addr) (vs : List V) (ps : List PyData), xs = [.ref a] ∧ SqL X.K H a vs ∧ SrtQ X.K vs ps H Q) := by
  intro pins s σ H xs us Q I r ⟨a, vs, ps, hx, hs, S⟩
  subst hx
  obtain ⟨its, rv, il, hz⟩ := I.list hs
  rw [Vals.ref1 r]
  have e := each_of_vals rv S.len
  have er : EachIs (fun v (b : V × PyData) => ∃ as, Reads s.heap v b.2 as) its (vs.zip ps) := (each_mem e).mono fun v b ⟨r, hb⟩ => Dp.reads I _ _ _ (S.dp b hb) r
  have hb : (vs.zip ps).length ≤ sizeLine := by rw [List.length_zip]; omega
  refine sorted_data (enc := (·.2)) il.isList e er (by rw [S.snd]; exact S.al) (by rw [S.snd]; exact S.so) hb (fun b hb => by
    have := S.de b.2 (List.of_mem_zip hb).2
    omega) fun out hlen ho => ?_
  obtain ⟨ep, he'⟩ := PyProof.Rows.sortedAll_at s.heap its out.toArray
  have hl2 : (((vs.zip ps).mergeSort (dataLe false (·.2))).map (·.1)).length ≤ sizeLine := by
    rw [List.length_map, List.length_mergeSort]; exact hb
  exact ⟨.ref _, upd H (s.heap.objs.size + 1) (.lst (((vs.zip ps).mergeSort (dataLe false (·.2))).map (·.1))), I.laid (t' := s.toks) (fun _ _ => PyProof.Rows.sortedAll_old) (Nat.le_succ _) ⟨hl2, out, ep, vals_of_each ho, he'⟩, rfl, S.q _ (I.hok.fresh (Nat.le_succ _))⟩
/-- sorted(d): the keys are collected, these are sorted -/
theorem cr_sort_src {pins : List (Addr × Obj)} {s : Shared} {σ : St} {H : Hp} {Q : VK} {T : String} {r d : Addr} {n : Nat} {P : Nat → Value → Prop} {OK : Heap → Prop} {vs : List V} {ps : List PyData} (hc : X.calm = true) (hu : X.A.units + 65 < cLine) (I : Inv X pins σ H s)
    (K : KdlSrc X.prog X.w T r d n P OK) (hok : OK s.heap) (hn : n ≤ sizeLine) (hv : ∀ acc : Array Value, ItemsOf P acc n → Vals vs acc.toList) (S : SrtQ X.K vs ps H Q) :
    wpAny (model X.prog X.w) X.A (call (.builtin "sorted") [.ref r]) (EP X pins σ Q) X.xe s := by
  refine Calls.call_function_entry PyProof.Rows.kind_sorted PyProof.Rows.plain_sorted PyProof.Rows.entry_sorted (PyProof.Rows.args_sorted1 _) ?_
  unfold Builtin.«sorted»
  refine wpAny_bind (m := checkCount "sorted" 1 1 _) (wpAny_pure ?_)
  refine wpAny_bind (PySem.W.kdu_collect (A := X.A.in1) K (I.ok.hd hc) hok hn fun h' tk acc hk hacc => ?_)
  have rv := hv acc hacc
  have I1 : Inv X pins σ H { s with heap := h', toks := tk } := I.kept hk
  have hz : acc.toList.length ≤ sizeLine := by rw [Array.length_toList, hacc.1]; exact hn
  have hb : (vs.zip ps).length ≤ sizeLine := by rw [List.length_zip]; have := rv.length; omega
  refine wpAny_bind (wpAny_newList ?_ hz)
  have hoL : (h'.push (seqObj "list" acc.toList.toArray 0)).get? h'.objs.size = some (seqObj "list" acc.toList.toArray 0) := Heap.get?_push_size _ rfl
  show wpAny _ _ _ _ _ { s with heap := h'.push (seqObj "list" acc.toList.toArray 0), toks := tk }
  have e := each_of_vals rv S.len
  have old : ∀ b u, h'.get? b = some u → (sortingHeap (h'.push (seqObj "list" acc.toList.toArray 0)) h'.objs.size acc.toList).get? b = some u := fun b u q => sortingHeap_old (Nat.ne_of_lt (Heap.lt_size q)) (Heap.get?_push_of_some _ q)
  have er : EachIs (fun v (b : V × PyData) => ∃ as, Reads (sortingHeap (h'.push (seqObj "list" acc.toList.toArray 0)) h'.objs.size acc.toList) v b.2 as) acc.toList (vs.zip ps) := (each_mem e).mono fun v b ⟨r, hb⟩ => by
    obtain ⟨as, q⟩ := Dp.reads I1 _ _ _ (S.dp b hb) r
    exact ⟨as, PyProof.Rows.Reads.keeps (fun b u q => old b u q) q⟩
  have hal : AllAlike ((vs.zip ps).map (·.2)) := by rw [S.snd]; exact S.al
  have hso : Sortable ((vs.zip ps).map (·.2)) := by rw [S.snd]; exact S.so
  refine wpAny_bind (wpAny_holding (wpAny_call_entry PyProof.Rows.slot_list_sort ⟨_, hoL, rfl⟩ PyProof.Rows.entry_list_sort
    (list_sort_vals (s := { s with heap := h'.push (seqObj "list" acc.toList.toArray 0), toks := tk }) (κ := dataKind (sortingHeap (h'.push (seqObj "list" acc.toList.toArray 0)) h'.objs.size acc.toList) ((vs.zip ps).map (·.2))) hoL
      (SortsAt.data (s := { s with heap := sortingHeap (h'.push (seqObj "list" acc.toList.toArray 0)) h'.objs.size acc.toList, toks := tk }) (each_map (R := fun v d => ∃ as, Reads (sortingHeap (h'.push (seqObj "list" acc.toList.toArray 0)) h'.objs.size acc.toList) v d as) (fun b : V × PyData => b.2) er) hal hso (fun d hd => by
        have := S.de d (by rw [← S.snd]; exact hd)
        show X.A.units + 1 + 1 + d.depth < cLine
        omega)) hz ⟨_, rfl, ?_⟩) (PyProof.Rows.args_list_sort _)))
  have ho := sortVals_data (h' := sortingHeap (h'.push (seqObj "list" acc.toList.toArray 0)) h'.objs.size acc.toList) (enc := (·.2)) false e er hal
  generalize sortVals _ false acc.toList acc.toList = out at ho
  obtain ⟨ep, he'⟩ := PyProof.Rows.sortedHeap_at (vs := acc.toList) (out := out.toArray) hoL
  have hl2 : (((vs.zip ps).mergeSort (dataLe false (·.2))).map (·.1)).length ≤ sizeLine := by
    rw [List.length_map, List.length_mergeSort]; exact hb
  refine wpAny_pure ⟨_, rfl, .ref h'.objs.size, upd H h'.objs.size (.lst (((vs.zip ps).mergeSort (dataLe false (·.2))).map (·.1))), I1.laid (t' := tk) (fun b u e => ?_) (Nat.le_refl _)
    (show ObjOk X.prog X.w _ _ _ (.lst _) from ⟨hl2, out, ep, vals_of_each ho, he'⟩), rfl, S.q _ (I1.hok.fresh (Nat.le_refl _))⟩
  have hb : b < h'.objs.size := Heap.lt_size e
  rw [PyProof.Rows.sortedHeap_old (Nat.ne_of_lt hb) (by rw [size_push']; exact Nat.lt_succ_of_lt hb)]
  exact Heap.get?_push_of_some _ e
theorem cr_sortK (hc : X.calm = true) (hu : X.A.units + 65 < cLine) : CallR X (.builtin "sorted") (fun xs H Q => ∃ (a : Addr) (kvs : List (Key × V)) (ps : List PyData), xs = [.ref a] ∧ Rd H a (.dK kvs) ∧ SrtQ X.K (kvs.map fun kv => kV kv.1) ps H Q) := by
  intro pins s σ H xs us Q I r ⟨a, kvs, ps, hx, hs, S⟩
  subst hx
  obtain ⟨z, lo, vs, rel, dd⟩ := dk_rd I.hok hs
  obtain ⟨ep, hat⟩ := dd.dictAt
  rw [Vals.ref1 r]
  have ek : (kvs.map fun kv => kV kv.1) = vs.map fun p => kV p.1 := by
    have e := congrArg (List.map kV) rel.keys
    rw [List.map_map, List.map_map] at e
    exact e
  refine cr_sort_src hc hu I (kdl_dict (knd := mixKind X.prog X.w) (kvs := vs) (ep := ep) lo) hat (by rw [← rel.length]; exact z) (fun acc hacc => ?_) S
  rw [ek]
  exact keys_at (by rw [Array.length_toList]; exact hacc.1) fun j v e => hacc.2 j v (by rw [← Array.getElem?_toList]; exact e)
theorem cr_sortT (hc : X.calm = true) (hu : X.A.units + 65 < cLine) : CallR X (.builtin "sorted") (fun xs H Q => ∃ (a : Addr) (kvs : List (List Key × V)), xs = [.ref a] ∧ Rd H a (.dT kvs) ∧ ∀ bs, IsKeys H kvs bs → ∃ ps, SrtQ X.K (bs.map V.ref) ps H Q) := by
  intro pins s σ H xs us Q I r ⟨d, kvs, hx, hd, S⟩
  subst hx
  rw [Vals.ref1 r]
  obtain ⟨z, hs, ks, pr, o, es, ep, ho, hx, hdt, he, hn⟩ := (show ObjOk X.prog X.w H s.heap d (.dT kvs) from hd.ok I.hok)
  have l1 : es.size = ks.length := size_of_entries he
  have l2 : kvs.length = ks.length := Paired.length pr
  obtain ⟨ps, S⟩ := S _ (isKeys_of pr)
  refine cr_sort_src hc hu I (kdl_raw hs hx hdt) ho (by omega) (fun acc' it => ?_) S
  have ea : acc'.toList = ks.map fun x => Value.ref x.2.1 := by
    have hl : acc'.toList.length = ks.length := by rw [Array.length_toList, it.1]; exact l1
    apply List.ext_getElem?
    intro j
    rw [List.getElem?_map]
    cases hj : acc'.toList[j]? with
    | none =>
      have h1 := List.getElem?_eq_none_iff.mp hj
      rw [List.getElem?_eq_none (by omega)]
      all_goals rfl
    | some v =>
      obtain ⟨en, hen, hv⟩ := it.2 j v (by rw [← Array.getElem?_toList]; exact hj)
      have qe := entry_at he j
      rw [hen] at qe
      cases hb : ks[j]? with
      | none =>
        rw [hb] at qe
        exact nomatch (show some en = none from qe)
      | some b =>
        rw [hb] at qe
        have e2 : en = entryOfKey (tupleKind (mixKind X.prog X.w)) b := Option.some.inj qe
        rw [hv, e2]
        all_goals rfl
  have eb : acc'.toList = (ks.map fun x => x.2.1).map Value.ref := by rw [ea, List.map_map]; all_goals rfl
  rw [eb]
  exact vals_refs _
end
end L2

set_option Elab.async false
set_option linter.all false
set_option maxHeartbeats 4000000
/-! DIm: sorted, over data. -/
namespace DG
open PySem PySem.Spec PyProof.Rows L2
set_option autoImplicit false
def isTupP : PyData → Bool | .tuple (_ :: _) => true | _ => false
def okOneP : PyData → Bool | .none => false | .tuple _ => false | _ => true
def alkB (ps : List PyData) : Bool := ps.all fun a => ps.all fun b => PySem.W.alike a b
def srtB (ps : List PyData) : Bool := alkB ps && (ps.all isTupP || ps.all okOneP) && ps.all fun d => decide (d.depth ≤ 60)
theorem srtB_of {ps : List PyData} (h : srtB ps = true) : PySem.W.AllAlike ps ∧ PySem.W.Sortable ps ∧ ∀ d ∈ ps, d.depth ≤ 60 := by
  unfold srtB alkB at h
  simp only [Bool.and_eq_true, Bool.or_eq_true, List.all_eq_true, decide_eq_true_eq] at h
  obtain ⟨⟨h1, h2⟩, h3⟩ := h
  refine ⟨fun d hd d' hd' => h1 d hd d' hd', h2.imp (fun h d hd => ?_) (fun h d hd => ?_), h3⟩
  · have := h d hd
    match d, this with
    | .tuple (x :: r), _ => exact ⟨x, r, rfl⟩
  · have := h d hd
    revert this
    cases d <;> simp [okOneP]
def sortDs (ds : List D) (ps : List PyData) : List D := ((ds.zip ps).mergeSort (PySem.W.dataLe false fun b : D × PyData => b.2)).map (·.1)
def srt (ds : List D) : Option Nw := (toPyL ds).bind fun ps => if srtB ps = true then some (.nl (sortDs ds ps)) else none
def keysOf (ks : List (Key × D)) : List D := (ks.map (·.1)).map keyV
def tkeysOf (ks : List (List Key × D)) : List D := (ks.map (·.1)).map fun k => .tup (k.map keyV)
def sorD : List D → Option Nw
  | [.lst _ ds] => srt ds
  | [.dk _ ks] => srt (keysOf ks)
  | [.dt _ ks] => srt (tkeysOf ks)
  | _ => none
theorem toPyL_len : ∀ {ds : List D} {ps : List PyData}, toPyL ds = some ps → ds.length = ps.length
  | [], ps, h => by cases h; rfl
  | d :: r, ps, h => by
    unfold toPyL at h
    cases h1 : toPy d with
    | none => rw [h1] at h; cases h
    | some p =>
      cases h2 : toPyL r with
      | none => rw [h1, h2] at h; cases h
      | some q => rw [h1, h2] at h; cases h; simp [toPyL_len h2]
theorem DpAll_mem {K : PySem.W.Frag} {H : Hp} : ∀ {vs : List V} {ps : List PyData}, DpAll K H vs ps → ∀ b ∈ vs.zip ps, Dp K H b.1 b.2
  | _, _, .nil, b, h => by simp at h
  | _, _, .cons r rr, b, h => by
    rw [List.zip_cons_cons] at h
    rcases List.mem_cons.mp h with h | h
    · subst h; exact r
    · exact DpAll_mem rr b h
theorem Rp.ofAll {z : Zo} {H : Hp} {β : Type} {f : β → V} {g : β → D} : ∀ {T : List β}, (∀ t ∈ T, Rp z H (.v (f t) (g t)) []) → Rp z H (.l (T.map f) (T.map g)) []
  | [], _ => .nil
  | t :: T, h => Rp.cons (A := []) (B := []) (h t List.mem_cons_self) (Rp.ofAll fun t ht => h t (List.mem_cons_of_mem _ ht))
theorem Rp.allOf {z : Zo} {H : Hp} : ∀ {vs : List V} {ds : List D}, Rp z H (.l vs ds) [] → ∀ q ∈ vs.zip ds, Rp z H (.v q.1 q.2) []
  | [], [], _, q, h => by simp at h
  | v :: vs, d :: ds, r, q, h => by
    obtain ⟨r1, r2⟩ := r.cons_nil
    rw [List.zip_cons_cons] at h
    rcases List.mem_cons.mp h with h | h
    · subst h; exact r1
    · exact Rp.allOf r2 q h
  | [], _ :: _, _, q, h => by simp at h
  | _ :: _, [], _, q, h => by simp at h
theorem Rp.sorted {z : Zo} {H : Hp} {vs : List V} {ds : List D} {ps : List PyData} (r : Rp z H (.l vs ds) []) (hp : ds.length = ps.length) :
    Rp z H (.l (((vs.zip ps).mergeSort (PySem.W.dataLe false fun b : V × PyData => b.2)).map (·.1)) (sortDs ds ps)) [] := by
  have hl : vs.length = ds.length := r.lenL
  have e1 : vs.zip ps = (vs.zip (ds.zip ps)).map fun t => (t.1, t.2.2) := by
    clear r
    induction vs generalizing ds ps with
    | nil => rfl
    | cons v vs ih =>
      cases ds with
      | nil => simp at hl
      | cons d ds =>
        cases ps with
        | nil => simp at hp
        | cons p ps => simp only [List.zip_cons_cons, List.map_cons, ih (by simpa using hp) (by simpa using hl)]
  have e2 : ds.zip ps = (vs.zip (ds.zip ps)).map fun t => t.2 := (List.map_snd_zip (by rw [List.length_zip]; omega)).symm
  have e3 : vs.zip ds = (vs.zip (ds.zip ps)).map fun t => (t.1, t.2.1) := by
    clear r e1 e2
    induction vs generalizing ds ps with
    | nil => rfl
    | cons v vs ih =>
      cases ds with
      | nil => simp at hl
      | cons d ds =>
        cases ps with
        | nil => simp at hp
        | cons p ps => simp only [List.zip_cons_cons, List.map_cons]; rw [ih (by simpa using hp) (by simpa using hl)]
  have ha := r.allOf
  rw [e3] at ha
  unfold sortDs
  rw [e2, e1]
  have m1 := List.map_mergeSort (r := PySem.W.dataLe false fun t : V × (D × PyData) => t.2.2) (s := PySem.W.dataLe false fun b : V × PyData => b.2) (f := fun t => (t.1, t.2.2)) (l := vs.zip (ds.zip ps)) fun a _ b _ => rfl
  have m2 := List.map_mergeSort (r := PySem.W.dataLe false fun t : V × (D × PyData) => t.2.2) (s := PySem.W.dataLe false fun b : D × PyData => b.2) (f := fun t => t.2) (l := vs.zip (ds.zip ps)) fun a _ b _ => rfl
  rw [← m1, ← m2, List.map_map, List.map_map]
  refine Rp.ofAll fun t ht => ?_
  exact ha (t.1, t.2.1) (List.mem_map.mpr ⟨t, List.mem_mergeSort.mp ht, rfl⟩)
section
variable {X : Cx} {p : Par} {W : WX} {lk : List Addr} {L : Lk} {σ : L2.St} {H : Hp} {e : Env} {st : Stk} {ws : List Wk} {a b c : Expr} {pos : Pos} {f g h : M D}
theorem srtQ_of {vs : List V} {ds : List D} {n : Nw} {Q : VK} (r : Rp (zW X.K X.mg H) H (.l vs ds) []) (h : srt ds = some n) (q : NewR X H n Q) : ∃ ps, SrtQ X.K vs ps H Q := by
  unfold srt at h
  cases h1 : toPyL ds with
  | none => rw [h1] at h; cases h
  | some ps =>
    rw [h1] at h
    dsimp only [Option.bind] at h
    by_cases hb : srtB ps = true
    case neg => rw [if_neg hb] at h; cases h
    rw [if_pos hb] at h
    cases h
    obtain ⟨k1, k2, k3⟩ := srtB_of hb
    have hl := toPyL_len h1
    obtain ⟨_, q⟩ := q
    exact ⟨ps, r.lenL.trans hl, DpAll_mem (Rp.py r ps h1), k1, k2, k3, fun a ha => q a _ ha (r.sorted hl)⟩
theorem Rp.keysL {z : Zo} {H : Hp} : ∀ (ks : List Key), Rp z H (.l (ks.map kV) (ks.map keyV)) []
  | [] => .nil
  | k :: ks => Rp.cons (A := []) (B := []) (keyV_rp z H k) (Rp.keysL ks)
theorem Rp.tkeysL {K : PySem.W.Frag} {H : Hp} {mg : Str → Option Value} : ∀ {kvs : List (List Key × V)} {bs : List Addr}, IsKeys H kvs bs → Rp (zW K mg H) H (.l (bs.map V.ref) ((kvs.map (·.1)).map fun k => .tup (k.map keyV))) []
  | [], [], .nil => .nil
  | kv :: kvs, b :: bs, .cons h t => Rp.cons (A := []) (B := []) (Rp.tup (A := []) (show Rd H b _ from .inl h) (Rp.keysL kv.1)) (Rp.tkeysL t)
theorem cx_sor (hc : X.calm = true) (hu : X.A.units + 65 < cLine) : CallNX X (.builtin "sorted") sorD := by
  have base := L2.CallR.or (X := X) (L2.CallR.or (cr_sortL hu) (cr_sortK hc hu)) (cr_sortT hc hu)
  intro pins s σ H xs us Q I r ⟨nfl, ds, n, hl, hw, ho, q⟩
  refine base pins s σ H xs us Q I r ?_
  unfold sorD at ho
  split at ho
  · rename_i f ds
    obtain ⟨v, rfl⟩ := len1 hl
    obtain ⟨a, vs, rfl, rd, r⟩ := Wr_lst (hw (v, .lst f ds) (by simp))
    obtain ⟨ps, S⟩ := srtQ_of r ho q
    exact .inl (.inl ⟨a, vs, ps, rfl, .inl rd, S⟩)
  · rename_i f ks
    obtain ⟨v, rfl⟩ := len1 hl
    obtain ⟨a, kvs, rfl, rd, r⟩ := Wr_dk (hw (v, .dk f ks) (by simp))
    have e : kvs.map (fun kv => kV kv.1) = (ks.map (·.1)).map kV := by
      rw [← r.keysK, List.map_map]; rfl
    obtain ⟨ps, S⟩ := srtQ_of (vs := kvs.map fun kv => kV kv.1) (by rw [e]; exact Rp.keysL _) ho q
    exact .inl (.inr ⟨a, kvs, ps, rfl, rd, S⟩)
  · rename_i f ks
    obtain ⟨v, rfl⟩ := len1 hl
    obtain ⟨a, kvs, B, rfl, at0, o, nd, r, eB⟩ := Rp.dt_inv (show Rp _ _ _ _ from hw (v, .dt f ks) (by simp))
    obtain rfl : B = [] := (List.append_eq_nil_iff.mp eB.symm).2
    refine .inr ⟨a, kvs, rfl, at0.rd, fun bs hb => ?_⟩
    refine srtQ_of (X := X) ?_ ho q
    unfold tkeysOf
    rw [← r.keysT]
    exact Rp.tkeysL hb
  · cases ho
end
end DG

set_option Elab.async false
set_option linter.all false
set_option maxHeartbeats 4000000
/-! DIn: texts, lists many times; from the end; each second. -/
namespace L2
open PySem PySem.Spec PyProof.Rows
def repS (z : Str) (n : Nat) : Str := ⟨(List.replicate n z.cps.toList).flatten.toArray⟩
theorem repS_len (z : Str) (n : Nat) : (repS z n).length = z.length * n := by
  show ((List.replicate n z.cps.toList).flatten.toArray).size = z.cps.size * n
  rw [List.size_toArray, List.length_flatten, List.map_replicate, List.sum_replicate_nat, Array.length_toList, Nat.mul_comm]
theorem foldl_app (z : Array Nat) : ∀ (m : Nat) (acc : List Nat), List.foldl (fun x1 x2 => x1 ++ x2) acc.toArray (List.replicate m z) = (acc ++ (List.replicate m z.toList).flatten).toArray
  | 0, acc => by simp
  | m + 1, acc => by
    rw [List.replicate_succ, List.foldl_cons]
    have : acc.toArray ++ z = (acc ++ z.toList).toArray := by simp
    rw [this, foldl_app z m, List.replicate_succ, List.flatten_cons, List.append_assoc]
section
variable {X : Cx}
theorem op_repS : OpR X (binaryOp .Mult) (fun x y H Q => ∃ (z : Str) (k : Int), x = .str z ∧ y = .int k ∧ -(2 ^ 63) ≤ k ∧ k < 2 ^ 63 ∧ z.length * k.toNat ≤ sizeLine ∧ Q (.str (repS z k.toNat)) H) := by
  intro pins s σ H x y v u Q I rx ry ⟨z, k, hx, hy, h1, h2, hz, q⟩
  subst hx hy
  obtain ⟨t, rfl⟩ := rx
  obtain ⟨t', rfl⟩ := ry
  have hr : (decide (k < -(2 ^ 63 : Int)) || decide (k ≥ 2 ^ 63)) = false := by
    rw [decide_eq_false (by omega), decide_eq_false (by omega)]; rfl
  refine PySem.P.mul_str hr (fun hn hc => ?_) (fun hn hc => decide_eq_false (by omega)) ?_
  · simp only [Bool.or_eq_false_iff, beq_eq_false_iff_ne] at hc
    have h3 : ((z.length * k.toNat : Nat) : Int) ≤ 2 ^ 63 - 1 := by
      have : (sizeLine : Nat) ≤ 2 ^ 62 := by decide
      omega
    have h4 : ((z.length * k.toNat : Nat) : Int) = (z.length : Int) * k := by
      rw [Int.natCast_mul, Int.toNat_of_nonneg (by omega)]
    rw [h4] at h3
    have := Int.le_ediv_of_mul_le (c := k) (a := (z.length : Int)) (b := 2 ^ 63 - 1) (by omega) h3
    omega
  · by_cases hn : k < 1
    · rw [if_pos hn]
      have e : repS z k.toNat = Str.empty := by
        have : k.toNat = 0 := by omega
        rw [this]; rfl
      rw [e] at q
      exact ⟨by decide, .str Str.empty, H, I.tok _, ⟨_, rfl⟩, q⟩
    · rw [if_neg hn]
      by_cases hc : (k == 1 || z.length == 0) = true
      · rw [if_pos hc]
        have e : repS z k.toNat = z := by
          rw [Bool.or_eq_true, beq_iff_eq, beq_iff_eq] at hc
          rcases hc with hc | hc
          · subst hc
            show (⟨(List.replicate 1 z.cps.toList).flatten.toArray⟩ : Str) = z
            simp
          · have hz0 : z.cps = #[] := Array.eq_empty_of_size_eq_zero hc
            have : z.cps.toList = [] := by rw [hz0]
            unfold repS
            rw [this]
            have : (List.replicate k.toNat ([] : List Nat)).flatten = [] := by
              rw [List.flatten_eq_nil_iff]
              intro l hl
              exact List.eq_of_mem_replicate hl
            rw [this]
            cases z
            cases hz0
            rfl
        rw [e] at q
        exact ⟨.str z, H, I, ⟨_, rfl⟩, q⟩
      · rw [if_neg hc]
        have e : (⟨(List.replicate k.toNat z.cps).foldl (· ++ ·) #[]⟩ : Str) = repS z k.toNat := by
          have := foldl_app z.cps k.toNat []
          rw [List.nil_append] at this
          show (⟨List.foldl (fun x1 x2 => x1 ++ x2) #[] (List.replicate k.toNat z.cps)⟩ : Str) = _
          rw [this]; rfl
        rw [e]
        exact ⟨by rw [repS_len]; exact hz, .str _, H, I.tok _, ⟨_, rfl⟩, q⟩
theorem op_repL : OpR X (binaryOp .Mult) (fun x y H Q => ∃ (l : Addr) (k : Int) (xs : List V), x = .ref l ∧ y = .int k ∧ Rd H l (.lst xs) ∧ -(2 ^ 63) ≤ k ∧ k < 2 ^ 63 ∧ xs.length * k.toNat ≤ sizeLine ∧
    ∀ p, H p = none → Q (.ref p) (upd H p (.lst (List.replicate k.toNat xs).flatten))) := by
  intro pins s σ H x y v u Q I rx ry ⟨l, k, xs, hx, hy, hH, h1, h2, hz, q⟩
  subst hx hy
  cases rx
  obtain ⟨t, rfl⟩ := ry
  obtain ⟨z, its, n, r, e⟩ := (show ObjOk X.prog X.w H s.heap l (.lst xs) from hH.ok I.hok)
  have hl : xs.length = its.length := r.length
  have hlen : its.toArray.size * k.toNat ≤ sizeLine := by rw [List.size_toArray, ← hl]; exact hz
  have hcap : ¬ its.toArray.size * k.toNat > (2 ^ 63 - 1) / 8 := by
    have : (sizeLine : Nat) ≤ (2 ^ 63 - 1) / 8 := by decide
    omega
  have hfit : ¬ (!Builtin.List.listFitsIndex k) = true := by
    rw [fitsIndex_both h1 h2]
    exact Bool.false_ne_true
  have hlong : ¬ Builtin.List.listTooLong (its.toArray.size * k.toNat) = true := by
    rw [notLongL hlen]
    exact Bool.false_ne_true
  have hnew : List.foldl (fun x1 x2 => x1 ++ x2) #[] (List.replicate (if its.toArray.isEmpty = true then 0 else k.toNat) its.toArray) = (List.replicate k.toNat its).flatten.toArray := by
    have f0 : ∀ m : Nat, List.foldl (fun x1 x2 => x1 ++ x2) #[] (List.replicate m its.toArray) = (List.replicate m its).flatten.toArray := fun m => by
      have := foldl_rep its m []
      rw [List.nil_append] at this
      exact this
    rw [f0]
    cases its with
    | nil => simp
    | cons a r' => rw [if_neg (by simp)]
  refine wpAny_binaryOp_repeat_ref (T := "list") (U := "int") (by decide) ⟨_, e, rfl⟩ (fun s' => typeIs_int s' k t) noFill_list_mul F.fills_int_mul F.slot_int_rmul repeat_list F.slot_int_index.lookup
    (call_meets F.slot_int_rmul (typeIs_int s k t) F.entry_int_rmul (F.args_int_rmul_2 _ _) (int___rmul___int_list k t l its.toArray n)
      ⟨e, rfl, ⟨_, e, rfl⟩, call_meets F.slot_list_mul ⟨_, e, rfl⟩ F.entry_list_mul (F.args_list_mul_2 _ _) (AutoListH.list___mul___list_int_3 l its.toArray n k t hfit hcap hlong) ⟨e, ?_⟩⟩)
  rw [hnew]
  exact ⟨.ref _, _, I.lnew (t' := s.toks) (r.rep k.toNat) (by rw [PyProof.Rows.lm_len_rep_flat, Nat.mul_comm]; exact hz), rfl, q _ I.fresh⟩
end
end L2
namespace L2
open PySem PySem.Spec PyProof.Rows
/-- each second one, from the first on -/
def ev2 {α : Type} : List α → List α
  | [] => []
  | [x] => [x]
  | x :: _ :: r => x :: ev2 r
def revS (z : Str) : Str := ⟨z.cps.toList.reverse.toArray⟩
def pickL {α : Type} (j : Int) (l : List α) : List α := if j = -1 then l.reverse else ev2 l
theorem ev2_get {α : Type} : ∀ (l : List α) (i : Nat), (ev2 l)[i]? = l[2 * i]?
  | [], i => by simp [ev2]
  | [x], 0 => rfl
  | [x], i + 1 => by simp [ev2]
  | x :: y :: r, 0 => rfl
  | x :: y :: r, i + 1 => by
    show (x :: ev2 r)[i + 1]? = _
    rw [List.getElem?_cons_succ, ev2_get r i, show 2 * (i + 1) = 2 * i + 1 + 1 by omega, List.getElem?_cons_succ, List.getElem?_cons_succ]
theorem ev2_len {α : Type} : ∀ l : List α, (ev2 l).length = (l.length + 1) / 2
  | [] => by simp [ev2]
  | [x] => by simp [ev2]
  | x :: y :: r => by
    show (ev2 r).length + 1 = (r.length + 2 + 1) / 2
    rw [ev2_len r]; omega
theorem vals_get {vs : List V} {us : List Value} (hl : vs.length = us.length) (h : ∀ (i : Nat) (v : V) (u : Value), vs[i]? = some v → us[i]? = some u → RelV v u) : Vals vs us := by
  induction vs generalizing us with
  | nil =>
    cases us with
    | nil => exact .nil
    | cons _ _ => simp at hl
  | cons v vs ih =>
    cases us with
    | nil => simp at hl
    | cons u us => exact .cons (h 0 v u rfl rfl) (ih (by simpa using hl) fun i v u h1 h2 => h (i + 1) v u (by simpa using h1) (by simpa using h2))
theorem vals_at {vs : List V} {us : List Value} (h : Vals vs us) : ∀ (i : Nat) (v : V) (u : Value), vs[i]? = some v → us[i]? = some u → RelV v u := by
  induction h with
  | nil => intro i v u h; simp at h
  | cons r _ ih =>
    intro i v u h1 h2
    cases i with
    | zero => simp at h1 h2; subst h1 h2; exact r
    | succ i => exact ih i v u (by simpa using h1) (by simpa using h2)
theorem Vals.ev2 {vs : List V} {us : List Value} (h : Vals vs us) : Vals (L2.ev2 vs) (L2.ev2 us) :=
  vals_get (by rw [ev2_len, ev2_len, h.length]) fun i v u h1 h2 => by rw [ev2_get] at h1 h2; exact vals_at h _ _ _ h1 h2
theorem fmap_congr {α β : Type} {f g : α → Option β} (h : ∀ a, f a = g a) : ∀ {l : List α}, l.filterMap f = l.filterMap g := fun {l} => by rw [show f = g from funext h]
theorem ev2_pick : ∀ l : List Value, (List.range ((l.length + 1) / 2)).filterMap (fun k => l[2 * k]?) = ev2 l
  | [] => by simp [ev2]
  | [x] => by simp [ev2]
  | x :: y :: r => by
    have e : ((x :: y :: r).length + 1) / 2 = (r.length + 1) / 2 + 1 := by simp only [List.length_cons]; omega
    rw [e, List.range_succ_eq_map, List.filterMap_cons]
    show x :: _ = x :: ev2 r
    rw [List.filterMap_map, ← ev2_pick r]
    refine congrArg (List.cons x) (fmap_congr fun k => ?_)
    show (x :: y :: r)[2 * (k + 1)]? = r[2 * k]?
    rw [show 2 * (k + 1) = 2 * k + 1 + 1 by omega, List.getElem?_cons_succ, List.getElem?_cons_succ]
theorem pick_2 (items : Array Value) : slicePick items none none (some 2) = (ev2 items.toList).toArray := by
  unfold slicePick
  have e : sliceRange (sliceBounds none none (some 2) items.size).1 (sliceBounds none none (some 2) items.size).2.1 (sliceBounds none none (some 2) items.size).2.2 = (List.range ((items.size + 1) / 2)).map fun k => 2 * k := by
    show sliceRange 0 (items.size : Int) 2 = _
    unfold sliceRange
    by_cases h : (0 : Int) < (items.size : Int)
    · have h1 : (((items.size : Int) - 0 + 2 - 1) / 2).toNat = (items.size + 1) / 2 := by omega
      simp only [show ((2 : Int) > 0) = True from by simp, if_true, h, h1]
      apply List.map_congr_left
      intro k _
      omega
    · have h0 : items.size = 0 := by omega
      simp [h0]
  rw [e, List.filterMap_map, ← ev2_pick, Array.length_toList]
  refine congrArg List.toArray (fmap_congr fun k => ?_)
  show items[2 * k]? = items.toList[2 * k]?
  rw [Array.getElem?_toList]
section
variable {X : Cx}
/-- a[::j], j -1 or 2 -/
def tStp (K : PySem.W.Frag) (j : Int) (te : TE) : TE := fun σ H Q => te σ H fun x H1 => (∃ a xs, x = .ref a ∧ SqL K H1 a xs ∧ ∀ p, H1 p = none → Q (.ref p) (upd H1 p (.lst (pickL j xs)))) ∨ ∃ z : Str, x = .str z ∧ j = -1 ∧ z.length ≤ sizeLine ∧ Q (.str (revS z)) H1
theorem pe_stp {e st : Expr} {te : TE} {j : Int} {p3 pos : Pos} (hj : j = -1 ∨ j = 2) (he : PE X e te) (hst : PO X (some st) (fun σ H Q => Q (some j) H)) : PE X (.Subscript e (.Slice none none (some st) p3) pos) (tStp X.K j te) := by
  refine ⟨fun pins s σ H Q I h => ?_⟩
  refine Subscript_ (thn (he.run pins s σ H _ I h) fun v s1 ⟨x, H1, I1, r1, q1⟩ => ?_)
  refine wpAny_Slice (thn (po_none.run pins s1 σ H1 (fun o H2 => o = none ∧ H2 = H1) I1 ⟨rfl, rfl⟩) fun vl s2 ⟨l, H2, I2, pl, el, e2⟩ => ?_)
  subst el e2
  refine thn (po_none.run pins s2 σ H2 (fun o H3 => o = none ∧ H3 = H2) I2 ⟨rfl, rfl⟩) fun vu s3 ⟨u, H3, I3, pu, eu, e3⟩ => ?_
  subst eu e3
  refine thn (hst.run pins s3 σ H3 (fun o H4 => o = some j ∧ H4 = H3) I3 ⟨rfl, rfl⟩) fun vs s4 ⟨o, H4, I4, ps, eo, e4⟩ => ?_
  subst eo e4
  have I5 : Inv X pins σ H4 { s4 with heap := s4.heap.push { cls := .type "slice", data := .fields #[vl, vu, vs] } } := I4.kept (t' := s4.toks) fun b ob q => Heap.get?_push_of_some _ q
  show wpAny (model X.prog X.w) X.A (subscriptTail e (.Slice none none (some st) p3) v (.ref s4.heap.objs.size)) (EP X pins σ Q) X.xe { s4 with heap := s4.heap.push { cls := .type "slice", data := .fields #[vl, vu, vs] } }
  rcases q1 with ⟨a, xs, ex, hx, q⟩ | ⟨z, ex, hm, hz, q⟩
  · subst ex
    cases r1
    obtain ⟨its, r, ht, hz⟩ := I5.list hx
    have hlen := r.length
    refine tail_any (ops := [.ref a, .ref s4.heap.objs.size]) ht.isList.typeIs (PySem.slot_list_getitem.lookup) ?_ (by with_unfolding_all rfl)
    refine wpAny_getItem_list_slice ht.isList (Heap.IsSliceOf.new _ vl vu vs) pl pu ps (by rcases hj with rfl | rfl <;> decide) ?_ (by rw [List.size_toArray]; omega)
    have hp : slicePick its.toArray none none (some j) = (pickL j its).toArray := by
      rcases hj with rfl | rfl
      · rw [PySem.W.krv_pick]; rfl
      · rw [pick_2]; rfl
    have rp : Vals (pickL j xs) (pickL j its) := by
      rcases hj with rfl | rfl
      · exact r.reverse
      · exact r.ev2
    have hl : (pickL j xs).length ≤ sizeLine := by
      rcases hj with rfl | rfl
      · show xs.reverse.length ≤ _
        rw [List.length_reverse]; exact hz
      · show (ev2 xs).length ≤ _
        rw [ev2_len]; omega
    rw [hp]
    refine ⟨.ref _, _, I5.laid (t' := s4.toks) (o := .lst (pickL j xs)) (fun b ob q => Heap.get?_push_of_some _ q) (Nat.le_refl _) ?_, rfl, q _ (I5.hok.fresh (Nat.le_refl _))⟩
    exact ⟨hl, _, 0, rp, Heap.get?_push_size _ rfl⟩
  · subst ex hm
    obtain ⟨t, rfl⟩ := r1
    obtain ⟨k, rfl, hk⟩ := IsPart.raw ps
    obtain ⟨l, rfl, hl⟩ := IsPart.raw pl
    obtain ⟨u, rfl, hu⟩ := IsPart.raw pu
    cases l with
    | some _ => cases hl
    | none =>
      cases u with
      | some _ => cases hu
      | none =>
        refine tail_any (ops := [.str z t, .ref s4.heap.objs.size]) (typeIs_str _ _ _) F.slot_str_getitem.lookup ?_ (by with_unfolding_all rfl)
        refine wpAny_getItem_str_slice (l := none) (u := none) (st := k) ⟨_, Heap.get?_push_size _ rfl, rfl, rfl⟩ (by rw [hk]; rfl) ?_
        have e1 : slicePicked z none none k = (List.range z.length).reverse := by
          unfold slicePicked
          rw [hk]
          show sliceRange ((z.length : Int) - 1) (-1) (-1) = _
          rw [PySem.W.krv_sliceRange, PySem.W.krv_range]
        have e2 : ((List.range z.length).reverse.filterMap (z.cps[·]?)) = z.cps.toList.reverse := by
          rw [List.filterMap_reverse, show z.length = z.cps.size from rfl, PySem.W.krv_all]
        unfold sliceMade
        rw [hk, e1, e2]
        have e3 : ((some (-1 : Int)).getD 1 == 1 && (List.range z.length).reverse.length == z.length) = false := rfl
        rw [e3, if_neg Bool.false_ne_true]
        have hl2 : (revS z).length ≤ sizeLine := by
          show (z.cps.toList.reverse.toArray).size ≤ _
          rw [List.size_toArray, List.length_reverse, Array.length_toList]; exact hz
        exact ⟨hl2, .str (revS z), H4, I5.tok _, ⟨_, rfl⟩, q⟩
theorem po_m1 {k : Nat} {p1 p2 : Pos} : PO X (some (.UnaryOp .USub (.Constant (.int 1) k p1) p2)) (fun σ H Q => Q (some (-1)) H) :=
  ⟨fun pins s σ H Q I h => (po_some (pe_un un_neg pe_int)).run pins s σ H Q I ⟨1, rfl, -1, rfl, h⟩⟩
theorem po_2 {k : Nat} {p1 : Pos} : PO X (some (.Constant (.int 2) k p1)) (fun σ H Q => Q (some 2) H) :=
  ⟨fun pins s σ H Q I h => (po_some pe_int).run pins s σ H Q I ⟨2, rfl, h⟩⟩
end
end L2

set_option Elab.async false
set_option linter.all false
set_option maxHeartbeats 4000000
/-! DIo: exceptions made as values, class values, copies, shared readings, calls with kept arguments. -/
namespace L2
open PySem PySem.Spec PyProof.Rows
section
variable {X : Cx} {e : Expr}
theorem pe_mkx {t : St → Hp → XK → Prop} (h : PMk X e t) : PE X e (fun σ H Q => t σ H fun cls d H1 => ∃ C, cls = .ref C ∧ ∀ a, H1 a = none → Q (.ref a) (upd H1 a (.ext (DG.ExcP a C d)))) := by
  refine ⟨fun pins s σ H Q I q => wpAny_mono (h pins s σ H _ I q) (fun u s1 hh => ?_) fun _ _ z => z⟩
  obtain ⟨a, oe, vs, sI, H', cls, d, rfl, J, k, ga, ge, hz, hd, _, na, os, bare, _, C, rfl, q⟩ := hh
  have new : ObjOk X.prog X.w (upd H' a (.ext (DG.ExcP a C d))) s1.heap a (.ext (DG.ExcP a C d)) := ⟨⟨oe, vs, ge, hz.1, hz.2, hd⟩, ⟨_, ge⟩, fun h1 h2 ⟨o, v, q1, q2, q3, q4⟩ k => ⟨o, v, k _ q1, q2, q3, q4⟩⟩
  exact ⟨.ref a, _, J.call' (ch := []) os (Un.laidN k ga na) (J.hok.laidN k na new) bare (fun b z => absurd z (by simp)), rfl, q a na⟩
end
end L2
namespace DG
open PySem PySem.Spec PyProof.Rows L2
set_option autoImplicit false
def exvM (c : Str) (flds : List Str) (r : M (List D)) : M D := r.bind fun ds => if ds.length = flds.length then .ret (.exc .sh c (flds.zip ds).reverse) else .bad
section
variable {X : Cx} {p : Par} {W : WX} {lk : List Addr} {L : Lk} {σ : L2.St} {H : Hp} {e : Env} {st : Stk} {ws : List Wk} {a b c : Expr} {pos : Pos} {f g h : M D} {fp : M (Nat × Pth)}
theorem pe_exvM {x : Str} {flds : List Str} {k : Nat} {p1 cp : Pos} {es : List Expr} {r : M (List D)} (tk : Takes X W) (E : ExOwn X.K X.mg X.prog X.w X.base x flds) (hr : Room k X.A) (hk : 2 ≤ k) (hg : Gl X x) (hfl : flds.length ≤ 1000)
    (ha : PA X (a :: es) (tAV X p W r)) (hdb : (x == ("__debug__" : Str)) = false) (he : starEach (a :: es) X.env = (false, eval a X.env) :: starEach es X.env) (hpl : (backTo cp (starEach es X.env)).any (·.1) = false) :
    PE X (.Call (.Name x p1) (a :: es) [] cp) (tV X p W (exvM x flds r)) := by
  obtain ⟨C, fI, fd, ps, T, iC, tI, F, hb, hm⟩ := E.ex
  refine PEmono (pe_mkx (pmk_oex T iC tI F (hr.mono hk) hb .nil (L2.passes_call tk (fun _ _ _ _ z => z.elim)) hg hm ha hdb he hpl)) fun σ H Q q => tR_mono (tR_bind q) fun lk L e st ws ds q vs H1 hl g1 => ?_
  by_cases hlen : ds.length = flds.length
  case neg => rw [if_neg hlen] at q; exact False.elim q
  rw [if_pos hlen] at q
  refine ⟨by rw [hl, hlen]; exact hfl, fun o ho => ?_⟩
  rw [List.append_nil]
  refine ⟨o, vs, rfl, by rw [hl, hlen], upd_same, fun d hd hdo => ⟨rfl, d, (flds.zip vs).reverse, upd_same, ?_, ?_, ?_⟩⟩
  · rw [upd_ne hdo, upd_same]
  · rw [upd_ne hdo] at hd; exact hd
  have hd1 : H1 d = none := by rw [upd_ne hdo] at hd; exact hd
  have eH : upd (del (upd (upd (upd H1 o (exo o C none)) d (exd d (flds.zip vs).reverse)) o (exo o C (some d))) o) d (.xd (flds.zip vs).reverse) = upd H1 d (.xd (flds.zip vs).reverse) := by
    funext b
    by_cases hb : b = d
    · subst hb; rw [upd_same, upd_same]
    · rw [upd_ne hb, upd_ne hb]
      by_cases hb2 : b = o
      · subst hb2; rw [del_same, ho]
      · rw [del_ne hb2, upd_ne hb2, upd_ne hb, upd_ne hb2]
  rw [eH]
  obtain ⟨z1, z2, z3⟩ := zipS (ks := flds) (z := ⟨X.K, X.mg, fun _ => True, fun _ => True, H1, []⟩) (H := H1) (B := []) hl hlen
  have g2 := (g1.newXd hd1 (flds.zip vs).reverse)
  have g3 : Gd X p lk L σ (upd H1 d (.xd (flds.zip vs).reverse)) e ((((flds.zip vs).reverse.map (·.2)).zip ((flds.zip ds).reverse.map (·.2))) ++ st) ws := g2.perm (by
    refine List.Perm.append_right _ ?_
    rw [List.map_reverse, List.map_reverse, ← z1, zipRev (by simp [hl])]
    exact (List.reverse_perm _).symm)
  refine ⟨C, rfl, fun a0 ha0 => ?_⟩
  refine q (.ref a0) _ (g3.mkExc (c := x) (fv := (flds.zip vs).reverse) (fs := (flds.zip ds).reverse) ha0 hm ⟨upd_same, g1.new0 hd1⟩ fun z G B r => ?_)
  exact RpS.toK (by rw [List.map_reverse, List.map_reverse, z2]) r
theorem pe_fnv {x : Str} {u : Value} {v : V} (hg : Gl X x) (hC : ∃ C, X.mg x = some (.ref C)) (hdb : (x == ("__debug__" : Str)) = false) : PE X (.Name x pos) (tW X p W (.ret (.fn x))) := by
  obtain ⟨C, hC⟩ := hC
  exact PEmono (pe_glob (v := .ref C) hg hC rfl hdb) fun σ H Q ⟨lk, L, e, st, ws, g, q⟩ => q _ H (g.pushW fun z G _ kg => .fn (by rw [kg]; exact hC))
/-- a name's data: copied where it owns nothing, else moved -/
def slotC (i : Nat) : M D := fun e => match e[i]? with
  | some (some d) => if allF noOwn d then .ok d e else .ok d (e.set i none)
  | _ => .bad
theorem Gd.slotK {i : Nat} {d : D} (g : Gd X p lk L σ H e st ws) (h : e[i]? = some (some d)) (hn : allF noOwn d = true) : ∃ v, σ[i]? = some (some v) ∧ Gd X p lk L σ H e ((v, d) :: st) ws := by
  obtain ⟨S, G, A, B, g⟩ := g
  obtain ⟨v, A1, A2, h1, h2, h3, h4⟩ := g.env.split h
  obtain rfl : A1 = [] := h2.noOwnA hn
  exact ⟨v, h1, S, G, A, B, g.less g.env (.cons (A := []) h2 g.stk) g.wk ⟨[], .refl _⟩ g.pin⟩
theorem pe_slotC {i : Nat} {x : Str} {pos : Pos} (hN : X.N[i]? = some x) (hv : Vis X.env.scope x) (hd : (x == ("__debug__" : Str)) = false) (hcd : (x == ("__classdict__" : Str)) = false) : PE X (.Name x pos) (tV X p W (slotC i)) :=
  PEmono (pe_var hN hv hd hcd) fun σ H Q ⟨lk, L, e, st, ws, g, q⟩ => by
    unfold slotC at q
    cases he : e[i]? with
    | none => rw [he] at q; exact False.elim q
    | some o =>
      cases o with
      | none => rw [he] at q; exact False.elim q
      | some d =>
        rw [he] at q
        dsimp only at q
        by_cases hi : allF noOwn d = true
        · rw [if_pos hi] at q
          obtain ⟨v, h1, h2⟩ := g.slotK he hi
          exact ⟨v, h1, q v H h2⟩
        · rw [if_neg hi] at q
          obtain ⟨v, h1, h2⟩ := g.slotM he
          exact ⟨v, h1, q v H h2⟩
/-- what cannot change is copied, else it is frozen where it stands -/
def vhM (w h : M D) : M D := fun e => match w e with
  | .ok d e' => if imm d then .ok d e' else h e
  | .exc c fs e' => .exc c fs e'
  | .bad => h e
theorem pe_vhM (hw : PE X a (tW X p W f)) (hh : PE X a (tV X p W g)) : PE X a (tV X p W (vhM f g)) :=
  PEmono (DG.PE.or (pe_strong hw) hh) fun σ H Q ⟨lk, L, e, st, ws, gd, q⟩ => by
    unfold vhM at q
    cases hf : f e with
    | bad => rw [hf] at q; exact .inr ⟨lk, L, e, st, ws, gd, q⟩
    | exc c fs e' =>
      rw [hf] at q
      refine .inl ⟨lk, L, e, st, ws, gd, ?_⟩
      unfold M.bind; rw [hf]; exact q
    | ok d e' =>
      rw [hf] at q
      dsimp only at q
      by_cases hi : imm d = true
      · rw [if_pos hi] at q
        refine .inl ⟨lk, L, e, st, ws, gd, ?_⟩
        unfold M.bind immM; rw [hf]; dsimp only; rw [if_pos hi]; exact q
      · rw [if_neg hi] at q; exact .inr ⟨lk, L, e, st, ws, gd, q⟩
/-- a call whose arguments may be kept: they are frozen -/
def callH (n : Nat) (F : List D → FRes) (r : M (List D)) : M D := r.bind fun ds => if ds.length = n ∧ allFL noOwn ds = true then resM (F (mapFL pasF ds)) else .bad
theorem dropZ {vs : List V} {ds : List D} {front : Stk} : ∀ {zs : Stk}, Gd X p lk L σ H e (front ++ (zs ++ st)) ws → Gd X p lk L σ H e (front ++ st) ws
  | [], g => g
  | _ :: zs, g => dropZ (vs := vs) (ds := ds) (zs := zs) ((g.perm List.perm_middle).drop)
theorem Gd.callH {vs : List V} {ds : List D} {n : Nat} {F : List D → FRes} {Q : VK} (g1 : Gd X p lk L σ H e (vs.zip ds ++ st) ws) (hl : vs.length = ds.length)
    (q : ((if ds.length = n ∧ allFL noOwn ds = true then resM (F (mapFL pasF ds)) else M.bad) e).run (fun d e' => ∀ v H', Gd X p lk L σ H' e' ((v, d) :: st) ws → Q v H') (XW X p W lk L σ st)) : spF X.K X.mg n F vs H Q (WE W σ) := by
  obtain ⟨S, sd, k2, out⟩ := g1.out
  by_cases hn : ds.length = n ∧ allFL noOwn ds = true
  case neg => rw [if_neg hn] at q; exact False.elim q
  rw [if_pos hn] at q
  refine ⟨mapFL pasF ds, S, by rw [mapFL_length]; exact hl, by rw [mapFL_length]; exact hn.1, sd, g1.nfl, fun w hw => ?_, ?_⟩
  · obtain ⟨d, h1, h2⟩ := zip_mapFL hw
    rw [h2]
    refine k2 _ _ (List.mem_append_left _ h1) ?_
    obtain ⟨i, hi⟩ := List.getElem?_of_mem (List.of_mem_zip h1).2
    exact allFL_get hn.2 hi
  · unfold resM at q
    cases hF : F (mapFL pasF ds) with
    | ok d =>
      rw [hF] at q
      exact fun hr v H' S' B o r => q v H' (dropZ (vs := vs) (ds := ds) (front := [(v, d)]) (out (g := .v v d) o hr r (front := [(v, d)]) fun z G r => by
        have := RpS.cons (p := (v, d)) (st := []) r .nil
        rwa [List.append_nil] at this))
    | exc c fs =>
      rw [hF] at q
      refine fun hr cls dd H' S' B hc o r => q cls dd H' ⟨hc, ?_⟩
      rcases r with ⟨rfl, rfl, rfl⟩ | ⟨d, fv, rfl, h0, h1, r⟩
      · exact .inl ⟨rfl, rfl, (dropZ (vs := vs) (ds := ds) (front := []) (out o (g := .s [] []) rfl .snil (front := []) fun z G _ => .nil)).subW fun w hw => (by cases hw)⟩
      · exact .inr ⟨d, fv, rfl, g1.new0 h0, h1, (Rp.toS (B := []) r).2, (dropZ (vs := vs) (ds := ds) (out o (g := .s fv fs) hr r (front := (fv.map (·.2)).zip (fs.map (·.2))) fun z G r => (Rp.toS (B := []) r).1)).subW fun w hw => (by cases hw)⟩
    | bad => rw [hF] at q; exact False.elim q
theorem pe_callHM {k n : Nat} {F : List D → FRes} {fa : Addr} {fd : FuncData} {ps : List Str} {x : Str} {p1 : Pos} {es : List Expr} {r : M (List D)} (Fn : FnOk X.prog X.w X.K X.mg X.base (L2.CX X.prog X.w) k fa fd ps (spF X.K X.mg n F)) (hr : Room k X.A) (hg : Gl X x) (hm : X.mg x = some (.ref fa)) (hk : PySem.W.keepIn X.K (.ref fa) = true) (hb : Binds X.K fd ps [])
    (tk : Takes X W) (ha : PA X (a :: es) (tAV X p W r)) (hdb : (x == ("__debug__" : Str)) = false) (he : starEach (a :: es) X.env = (false, eval a X.env) :: starEach es X.env) (hpl : (backTo pos (starEach es X.env)).any (·.1) = false) :
    PE X (.Call (.Name x p1) (a :: es) [] pos) (tV X p W (callH n F r)) :=
  PEmono (pe_callS Fn hr hg hm hk hb (fun σ => passAt tk σ) ha hdb he hpl) fun σ H Q q => tR_mono (tR_bind q) fun lk L e st ws ds q vs H1 hl g1 => g1.callH hl q
/-! ### many times, from the end -/
def inIx (k : Int) : Prop := -(2 ^ 63) ≤ k ∧ k < 2 ^ 63
instance (k : Int) : Decidable (inIx k) := by unfold inIx; infer_instance
def mulE : D → D → Option Nw
  | .int i, .int j => mulD (.int i) (.int j)
  | .str z, .int k => if inIx k ∧ z.length * k.toNat ≤ sizeLine then some (.sc (.str (repS z k.toNat))) else none
  | .lst _ ds, .int k => if inIx k ∧ ds.length * k.toNat ≤ sizeLine ∧ immL (List.replicate k.toNat ds).flatten = true then some (.nl (List.replicate k.toNat ds).flatten) else none
  | _, _ => none
theorem Rp.rep {z : Zo} {H : Hp} {xs : List V} {ds : List D} (r : Rp z H (.l xs ds) []) : ∀ n, Rp z H (.l (List.replicate n xs).flatten (List.replicate n ds).flatten) []
  | 0 => .nil
  | n + 1 => by
    rw [List.replicate_succ, List.replicate_succ, List.flatten_cons, List.flatten_cons]
    have key : ∀ {xs : List V} {ds : List D} {ys : List V} {es : List D}, Rp z H (.l xs ds) [] → Rp z H (.l ys es) [] → Rp z H (.l (xs ++ ys) (ds ++ es)) [] := by
      intro xs
      induction xs with
      | nil => intro ds ys es h1 h2; cases h1; exact h2
      | cons x xs ih =>
        intro ds ys es h1 h2
        cases ds with
        | nil => cases h1
        | cons d ds => obtain ⟨k1, k2⟩ := h1.cons_nil; exact Rp.cons (A := []) (B := []) k1 (ih k2 h2)
    exact key r (r.rep n)
theorem on_mulE : OpN X (binaryOp .Mult) mulE := by
  refine .of ((op_mul.or op_repS).or op_repL) fun x y H Q dx dy n w1 w2 ho q => ?_
  unfold mulE at ho
  split at ho
  · rename_i i j
    cases Wr_int w1
    cases Wr_int w2
    simp only [mulD, Option.ite_none_right_eq_some, Option.some.injEq] at ho
    obtain ⟨hc, rfl⟩ := ho
    obtain ⟨v, hv, q⟩ := q
    cases hv
    exact .inl (.inl ⟨i, j, rfl, rfl, hc, q⟩)
  · rename_i z k
    cases Wr_str w1
    cases Wr_int w2
    simp only [Option.ite_none_right_eq_some, Option.some.injEq] at ho
    obtain ⟨hc, rfl⟩ := ho
    obtain ⟨v, hv, q⟩ := q
    cases hv
    exact .inl (.inr ⟨z, k, rfl, rfl, hc.1.1, hc.1.2, hc.2, q⟩)
  · rename_i f ds k
    cases Wr_int w2
    obtain ⟨a, xs, rfl, rd, r⟩ := Wr_lst w1
    simp only [Option.ite_none_right_eq_some, Option.some.injEq] at ho
    obtain ⟨hc, rfl⟩ := ho
    obtain ⟨_, q⟩ := q
    exact .inr ⟨a, k, xs, rfl, rfl, rd, hc.1.1, hc.1.2, by rw [r.lenL]; exact hc.2.1, fun p hp => q p _ hp (r.rep _)⟩
  · cases ho
def stpD (j : Int) : D → Option Nw
  | .str z => if j = -1 ∧ z.length ≤ sizeLine then some (.sc (.str (revS z))) else none
  | .lst _ ds => some (.nl (pickL j ds))
  | _ => none
theorem Rp.lLen {z : Zo} {H : Hp} {xs : List V} {ds : List D} (r : Rp z H (.l xs ds) []) : xs.length = ds.length := r.lenL
theorem Rp.lOf {z : Zo} {H : Hp} : ∀ {xs : List V} {ds : List D}, xs.length = ds.length → (∀ (i : Nat) v d, xs[i]? = some v → ds[i]? = some d → Rp z H (.v v d) []) → Rp z H (.l xs ds) []
  | [], [], _, _ => .nil
  | x :: xs, d :: ds, hl, h => Rp.cons (A := []) (B := []) (h 0 x d rfl rfl) (Rp.lOf (by simpa using hl) fun i v d h1 h2 => h (i + 1) v d (by simpa using h1) (by simpa using h2))
  | [], _ :: _, hl, _ => by simp at hl
  | _ :: _, [], hl, _ => by simp at hl
theorem Rp.lAt {z : Zo} {H : Hp} : ∀ {xs : List V} {ds : List D}, Rp z H (.l xs ds) [] → ∀ (i : Nat) v d, xs[i]? = some v → ds[i]? = some d → Rp z H (.v v d) []
  | [], [], _, i, v, d, h, _ => by simp at h
  | x :: xs, e :: ds, r, i, v, d, h1, h2 => by
    obtain ⟨k1, k2⟩ := r.cons_nil
    cases i with
    | zero => simp at h1 h2; subst h1 h2; exact k1
    | succ i => exact k2.lAt i v d (by simpa using h1) (by simpa using h2)
  | [], _ :: _, r, _, _, _, _, _ => nomatch r
  | _ :: _, [], r, _, _, _, _, _ => nomatch r
theorem Rp.pick {z : Zo} {H : Hp} {xs : List V} {ds : List D} (j : Int) (r : Rp z H (.l xs ds) []) : Rp z H (.l (pickL j xs) (pickL j ds)) [] := by
  have hl := r.lLen
  unfold pickL
  by_cases h : j = -1
  · rw [if_pos h, if_pos h]
    refine Rp.lOf (by rw [List.length_reverse, List.length_reverse, hl]) fun i v d h1 h2 => ?_
    have hi : i < xs.length := by
      have := (List.getElem?_eq_some_iff.mp h1).1
      rwa [List.length_reverse] at this
    rw [List.getElem?_reverse hi] at h1
    rw [List.getElem?_reverse (by omega)] at h2
    exact r.lAt _ _ _ h1 (by rw [hl]; exact h2)
  · rw [if_neg h, if_neg h]
    refine Rp.lOf (by rw [ev2_len, ev2_len, hl]) fun i v d h1 h2 => ?_
    rw [ev2_get] at h1 h2
    exact r.lAt _ _ _ h1 h2
theorem pe_stpM {st0 : Expr} {j : Int} {p3 pos : Pos} (hj : j = -1 ∨ j = 2) (ha : PE X a (tW X p W f)) (hst : PO X (some st0) (fun σ H Q => Q (some j) H)) : PE X (.Subscript a (.Slice none none (some st0) p3) pos) (tV X p W (f.bind fun d => newM (stpD j d))) :=
  PEmono (pe_stp hj ha hst) fun σ H Q q => tR_mono (tR_bind q) fun lk L e st ws d q v H1 g1 => by
    obtain ⟨n, ho, hn⟩ := newM_run q (g1.subW fun w hw => List.mem_cons_of_mem _ hw)
    have w1 := g1.wr List.mem_cons_self
    unfold stpD at ho
    split at ho
    · rename_i z
      cases Wr_str w1
      simp only [Option.ite_none_right_eq_some, Option.some.injEq] at ho
      obtain ⟨hc, rfl⟩ := ho
      obtain ⟨v, hv, q⟩ := hn
      cases hv
      exact .inr ⟨z, rfl, hc.1, hc.2, q⟩
    · rename_i f' ds
      obtain ⟨a, xs, rfl, rd, r⟩ := Wr_lst w1
      cases ho
      obtain ⟨_, q⟩ := hn
      exact .inl ⟨a, xs, rfl, .inl rd, fun p hp => q p _ hp (r.pick j)⟩
    · cases ho
def tupD : List D → Option Nw
  | [.lst _ ds] => some (.nt ds)
  | _ => none
theorem cn_tuple : CallN X (.type "tuple") tupD := .of call_tuple_of fun xs H Q ds n hl hw ho q => by
  unfold tupD at ho
  split at ho
  · rename_i f ds
    obtain ⟨v, rfl⟩ := len1 hl
    obtain ⟨a, xs, rfl, rd, r⟩ := Wr_lst (hw (v, .lst f ds) (by simp))
    cases ho
    obtain ⟨_, q⟩ := q
    exact ⟨a, xs, rfl, .inl ⟨.inl rd, fun l hl => q l _ hl r⟩⟩
  · cases ho
end
end DG

set_option Elab.async false
set_option linter.all false
set_option maxHeartbeats 4000000
/-! DIp: fields as places, o.f = v, tuples taken apart, methods that are lent their object. -/
namespace L2
open PySem PySem.Spec PyProof.Rows
theorem meth_eval {o : Expr} {m : Str} {apos pos : Pos} {es : List Expr} {env : PySem.Env} (hbase : attributeBase o m env (eval o env) = eval o env)
    (hfew : ((backTo pos (starEach es env)).all (fun x => !x.1) && (backToKw pos (keywordEach [] env)).all (fun x => x.1.isSome) && decide (es.length + ([] : List Keyword).length + (if ([] : List Keyword).isEmpty then 0 else 1) < 30)) = true)
    (hline : (apos.endLine == pos.line) = true) :
    eval (.Call (.Attribute o m apos) es [] pos) env = (do
      let ov ← eval o env
      standAt apos.atName
      let (f, first) ← holding [ov] (getMethod ov m (do return (← importBound o env).getD true))
      callWith pos f first (backTo pos (starEach es env)) (backToKw pos (keywordEach [] env))) := by
  have hform : methodCallForm (es.length + ([] : List Keyword).length) (backTo pos (starEach es env)) (backToKw pos (keywordEach [] env)) = true := hfew
  have hpos : methodCallPos true o env apos pos = pure pos := by unfold methodCallPos; simp [hline]
  rw [arm_eval_Call, hbase]
  unfold methodCall
  rw [hform, hpos]
  rfl
end L2
namespace DG
open PySem PySem.Spec PyProof.Rows L2
set_option autoImplicit false
/-- what may be asked of what stands there -/
def fldOk (xt it : FTab) (n : Str) : D → Bool
  | .exc _ c _ => match xt.lookup c with
    | some ns => decide (n ∈ ns)
    | none => false
  | .ins _ c _ => match it.lookup c with
    | some ns => decide (n ∈ ns)
    | none => false
  | _ => false
def fldPM (xt it : FTab) (n : Str) (fp : M (Nat × Pth)) : M (Nat × Pth) := fp.bind fun q => fun e => match atP q e with
  | some d => if fldOk xt it n d = true ∧ (getS d (.fld n)).isSome = true then .ok (q.1, q.2 ++ [.fld n]) e else .bad
  | none => .bad
section
variable {X : Cx} {p : Par} {W : WX} {lk : List Addr} {L : Lk} {σ : L2.St} {H : Hp} {e : Env} {st : Stk} {ws : List Wk} {a b c : Expr} {pos : Pos} {f g h : M D} {fp : M (Nat × Pth)}
theorem rd_nofz (g : Gd X p lk L σ H e st ws) {a : Addr} {u : HO} (nl : ¬ Lkb u) (r : Rd H a u) : H a = some u := by
  rcases r with r | ⟨o', r⟩
  · exact r
  · exact absurd (g.nfl _ _ _ r) nl
theorem pe_fldP {xt it : FTab} {n : Str} (T : FtOk X.K X.mg xt it) (ha : PE X a (tP X p W fp)) (hb : attributeBase a n X.env (eval a X.env) = eval a X.env) : PE X (.Attribute a n pos) (tP X p W (fldPM xt it n fp)) :=
  PEmono (DG.PE.or (pe_fld ha hb) (pe_xfd ha hb)) fun σ H Q q => by
    obtain ⟨lk, L, e, st, ws, g0, q⟩ := q
    unfold fldPM M.bind at q
    cases hf : fp e with
    | bad => rw [hf] at q; exact False.elim q
    | exc c fs e' =>
      rw [hf] at q
      refine .inl ⟨lk, L, e, st, ws, g0, ?_⟩
      rw [hf]; exact q
    | ok pl e' =>
      rw [hf] at q
      dsimp only at q
      cases hat : atP pl e' with
      | none => rw [hat] at q; exact False.elim q
      | some d =>
        rw [hat] at q
        dsimp only at q
        by_cases hc : fldOk xt it n d = true ∧ (getS d (.fld n)).isSome = true
        case neg => rw [if_neg hc] at q; exact False.elim q
        rw [if_pos hc] at q
        obtain ⟨h1, h2⟩ := hc
        obtain ⟨c, hs⟩ := Option.isSome_iff_exists.mp h2
        have q : ∀ v H', Gd X p lk L σ H' e' st (.p pl.1 (pl.2 ++ [.fld n]) v :: ws) → Q v H' := q
        cases d <;> simp only [fldOk, Bool.false_eq_true] at h1
        case ins fl cn fs =>
          refine .inl ⟨lk, L, e, st, ws, g0, ?_⟩
          rw [hf]
          intro x H1 g
          split at h1
          · rename_i ns hl
            have hn : n ∈ ns := of_decide_eq_true h1
            obtain ⟨z, G, A0, v, r, vs, rd, g3⟩ := g.stepP List.mem_cons_self hat hs
            obtain ⟨z2, G2, A2, kK, kg, r2, rd2⟩ := g.atRep hat (g.pl List.mem_cons_self)
            obtain ⟨a', C, dx, fv, B, rfl, at0, o, hm, rl, _⟩ := Rp.ins_inv r2
            have hm : X.mg cn = some (.ref C) := by rw [← kg]; exact hm
            have hC := T.i cn ns hl C hm
            have hH : H1 a' = some (.ins C dx fv) := g.ins (rd2 _ _ at0.rd)
            have hv : getA fv n = some v := by
              obtain ⟨a2, e2, hr⟩ := vs
              cases e2
              rcases hr with ⟨C', dx', fs', hr, hx⟩ | ⟨C', dd, fs', hr, _, _⟩
              · have := g.ins (rd _ _ hr)
                rw [hH] at this
                cases this
                exact hx
              · have := rd_nofz (u := .ext _) g (fun z => z) (rd _ _ hr)
                rw [hH] at this; cases this
            exact ⟨a', C, dx, fv, v, rfl, hH, hC.1, hC.2 n hn, by rw [lookup_getA]; exact hv, q v H1 (g3.subW fun w hw => (List.mem_cons.mp hw).elim (fun z => z ▸ List.mem_cons_self) fun z => List.mem_cons_of_mem _ (List.mem_cons_of_mem _ z))⟩
          · cases h1
        case exc fl cn fs =>
          refine .inr ⟨lk, L, e, st, ws, g0, ?_⟩
          rw [hf]
          intro x H1 g
          split at h1
          · rename_i ns hl
            have hn : n ∈ ns := of_decide_eq_true h1
            obtain ⟨z, G, A0, v, r, vs, rd, g3⟩ := g.stepP List.mem_cons_self hat hs
            obtain ⟨z2, G2, A2, kK, kg, r2, rd2⟩ := g.atRep hat (g.pl List.mem_cons_self)
            have r2 : Rp z2 G2 (.v x (.exc fl cn fs)) A2 := r2
            cases r2 with
            | @exc _ a' C' dd' _ fv' _ _ e0 at1 o1 x1 q1 r1 =>
              have hm : X.mg cn = some (.ref C') := by rw [← kg]; exact q1
              have hC := T.x cn ns hl C' hm
              have hH : H1 a' = some (.ext (ExcP a' C' dd')) := rd_nofz (u := .ext _) g (fun z => z) (rd2 _ _ at1)
              obtain ⟨a2, e2, hr⟩ := vs
              cases e2
              rcases hr with ⟨C2, dx, fs', hr, _⟩ | ⟨C2, dd, fs', hr, hd, hx⟩
              · have := g.ins (rd _ _ hr)
                rw [hH] at this; cases this
              · have := rd_nofz (u := .ext _) g (fun z => z) (rd _ _ hr)
                rw [hH] at this
                obtain ⟨rfl, rfl⟩ := ExcP.inj (HO.ext.inj (Option.some.inj this))
                have hdd : H1 dd = some (.xd fs') := rd_nofz (u := .xd _) g (fun z => z) (rd _ _ hd)
                exact ⟨a', C', dd, fs', v, rfl, hH, hC.1, hC.2 n hn, hdd, by rw [lookup_getA]; exact hx, q v H1 (g3.subW fun w hw => (List.mem_cons.mp hw).elim (fun z => z ▸ List.mem_cons_self) fun z => List.mem_cons_of_mem _ (List.mem_cons_of_mem _ z))⟩
          · cases h1
/-! ### o.f = v -/
theorem Gd.insW {st0 front : Stk} {q : Nat × Pth} {cn : Str} {fs : List (Str × D)} {x : V} (g : Gd X p lk L σ H e (front ++ st0) ws) (h : atP q e = some (.ins .own cn fs)) (hx : PlV σ H q.1 q.2 x) (hw : ∀ w ∈ ws, w.imm = true) :
    ∃ a C dx fv, x = .ref a ∧ H a = some (.ins C dx fv) ∧ X.mg cn = some (.ref C) ∧ fv.map (·.1) = fs.map (·.1) ∧
      ∀ (fv' : List (Str × V)) (fs' : List (Str × D)) (back : Stk), (∀ (z : Zo) (G : Hp) (A B : List Addr), Rp z G (.s fv fs) A → RpS z G front B → ∃ C A' B', Rp z G (.s fv' fs') A' ∧ RpS z G back B' ∧ (A ++ B).Perm (C ++ (A' ++ B'))) →
        Gd X p lk L σ (upd H a (.ins C dx fv')) (setAt q (.ins .own cn fs') e) (back ++ st0) ws ∧ PlV σ (upd H a (.ins C dx fv')) q.1 q.2 (.ref a) := by
  obtain ⟨r, he, hp, hs⟩ := atP_of h
  obtain ⟨a, u, rfl, hH, hM, _, z, G, A0, B1, kK, kg, hlk, hG, r0, s0, nd, k⟩ := g.change he hp rfl hx hw
  obtain ⟨a', C1, dx, xs, C0, e1, at0, o, hm, rl, eA⟩ := Rp.ins_inv r0
  cases e1
  have hu : u = .ins C1 dx xs := by
    have : G a = some (.ins C1 dx xs) := at0
    rw [hG] at this; exact Option.some.inj this
  subst hu
  refine ⟨a, C1, dx, xs, rfl, hH, by have := hm; rw [kg] at this; exact this, rl.keysF, fun xs' fs' back tr => ?_⟩
  rw [hs]
  subst eA
  have ha : a ∉ C0 ++ B1 := (List.nodup_cons.mp (show (a :: (C0 ++ B1)).Nodup from nd)).1
  obtain ⟨C, A', B', t1, t2, t3⟩ := tr z G C0 B1 rl s0
  refine k (.ins C1 dx xs') (.ins .own cn fs') back C (a :: A') B' (fun G' hG' keep => ?_) ?_ (fun _ _ z => nomatch z)
  · have hA' : a ∉ A' := fun z => ha (t3.mem_iff.mpr (List.mem_append_right _ (List.mem_append_left _ z)))
    have hB' : a ∉ B' := fun z => ha (t3.mem_iff.mpr (List.mem_append_right _ (List.mem_append_right _ z)))
    exact ⟨Rp.ins (f := .own) hG' hlk hm (keep _ _ t1 hA'), t2.keep keep hB'⟩
  · show (a :: (C0 ++ B1)).Perm (C ++ (a :: (A' ++ B')))
    exact (List.Perm.cons a t3).trans List.perm_middle.symm
theorem putF_setA (n : Str) (y : V) : ∀ fs : List (Str × V), putF n y fs = setA fs n y
  | [] => rfl
  | (k, v) :: r => by
    have ih := putF_setA n y r
    unfold putF
    by_cases hk : k = n
    · subst hk
      have : getA ((k, v) :: r) k = some v := by unfold getA; rw [if_pos rfl]
      unfold setA
      rw [if_pos rfl, this]
      show _ = repA ((k, v) :: r) k y
      unfold repA
      rw [if_pos rfl]
    · have : getA ((k, v) :: r) n = getA r n := by conv => lhs; unfold getA
                                                   rw [if_neg hk]
      rw [if_neg hk, ih]
      unfold setA
      rw [this]
      cases getA r n with
      | none => rfl
      | some z =>
        show (k, v) :: repA r n y = repA ((k, v) :: r) n y
        conv => rhs; unfold repA
        rw [if_neg hk]
theorem trF {z : Zo} {G : Hp} {fv : List (Str × V)} {fs : List (Str × D)} {y : V} {d : D} {k : Str} {A B : List Addr} (r : Rp z G (.s fv fs) A) (s : RpS z G [(y, d)] B) : ∃ C A' B', Rp z G (.s (setA fv k y) (setA fs k d)) A' ∧ RpS z G [] B' ∧ (A ++ B).Perm (C ++ (A' ++ B')) := by
  have ry := s.one
  have hs : (getA fv k).isSome = (getA fs k).isSome := getA_isSome r.keysF k
  unfold setA
  rw [hs]
  cases q : getA fs k with
  | some d0 =>
    obtain ⟨v0, A0, A1, h1, h2, h3, h4⟩ := r.focF q
    obtain ⟨A', q1, q2⟩ := h4 z G y d B (.refl _) .refl (fun _ _ => rfl) ry
    refine ⟨A0, A', [], q1, .nil, ?_⟩
    refine (List.Perm.append_right _ h3).trans ?_
    refine List.Perm.trans ?_ (List.Perm.append_left _ (List.Perm.append_right _ q2.symm))
    exact List.perm_iff_count.mpr fun x => by simp only [List.count_append, List.count_nil]; omega
  | none =>
    refine ⟨[], A ++ B, [], r.appF ?_, .nil, by simp⟩
    have := Rp.scons (k := k) ry .snil
    rw [List.append_nil] at this
    exact this
def stfE (it : FTab) (q : Nat × Pth) (n : Str) (v : D) (e : Env) : Option Env := match atP q e with
  | some (.ins .own c fs) => if fldOk [] it n (.ins .own c fs) = true ∧ fs.length < 900 then some (setAt q (.ins .own c (setA fs n v)) e) else none
  | _ => none
def stfM (it : FTab) (n : Str) (fv : M D) (fp : M (Nat × Pth)) : M Fw := fv.bind fun v => fp.bind fun q => fun e => optE (stfE it q n v e)
theorem ps_stfM {xt it : FTab} {n : Str} {o value : Expr} {pos' : Pos} {fv : M D} (T : FtOk X.K X.mg xt it) (hv : PE X value (tV0 X p W fv)) (ho : PE X o (tP0 X p W fp)) (hs : swapsWith value (some (.Attribute o n pos')) pos.line X.env = pure false) :
    PS X (.Assign [.Attribute o n pos'] value pos) (tS X p W (stfM it n fv fp)) :=
  PSmono (ps_fld ho hv hs) fun D σ H ⟨lk, L, e, st, gd, q⟩ => by
    refine ⟨lk, L, e, st, gd, Res.run_mono (run_bind q) (fun d e1 q y H1 g1 => ?_) XS.xw⟩
    refine ⟨lk, L, e1, (y, d) :: st, g1, Res.run_mono (run_bind q) (fun pl e2 q x H2 g2 => ?_) fun c fs e' z => ?_⟩
    · have nw : ∀ w ∈ ([] : List Wk), w.imm = true := fun w hw => by cases hw
      have hx := g2.pl (i := pl.1) (π := pl.2) List.mem_cons_self
      have g3 := g2.subW (ws' := []) fun w hw => by cases hw
      unfold optE stfE at q
      cases hat : atP pl e2 with
      | none => rw [hat] at q; exact False.elim q
      | some d0 =>
        rw [hat] at q
        cases d0 with
        | ins fl cn fs =>
          cases fl with
          | own =>
            dsimp only at q
            by_cases hc : fldOk [] it n (.ins .own cn fs) = true ∧ fs.length < 900
            case neg => rw [if_neg hc] at q; exact False.elim q
            rw [if_pos hc] at q
            obtain ⟨h1, h2⟩ := hc
            have q : ∀ σ' H', Gd X p lk L σ' H' (setAt pl (.ins .own cn (setA fs n d)) e2) st [] → D.nx σ' H' := q
            unfold fldOk at h1
            dsimp only at h1
            split at h1
            · rename_i ns hl
              have hn : n ∈ ns := of_decide_eq_true h1
              obtain ⟨a, C, dx, fv, rfl, hH, hm, hk, k⟩ := Gd.insW (front := [(y, d)]) g3 hat hx nw
              have hC := T.i cn ns hl C hm
              refine ⟨a, C, dx, fv, rfl, hH, hC.1, hC.2 n hn, by have := congrArg List.length hk; simp only [List.length_map] at this; omega, ?_⟩
              rw [putF_setA]
              exact q _ _ (k _ _ [] fun z G A B r s => trF r s).1
            · cases h1
          | _ => exact False.elim q
        | _ => exact False.elim q
    · exact fun cls d' H' ⟨h1, h2⟩ => z _ cls d' H' ⟨h1, h2.elim (fun z => .inl ⟨z.1, z.2.1, z.2.2.drop⟩) fun ⟨dd, fv, z1, z0, z2, z3, z4⟩ => .inr ⟨dd, fv, z1, z0, z2, z3, ((z4.perm List.perm_middle).drop)⟩⟩
/-! ### a, b = e -/
def settM (f : M D) (gs : List (D → Env → Option Env)) : M Fw := f.bind fun d => (liftT (tupG gs) d).bind fun _ => .ret .next
theorem ps_settM {es : List Expr} {k : Nat} {gs : List (D → Env → Option Env)} {pos' : Pos} (he : PE X a (tV0 X p W f)) (hg : PG X (.Tuple es k pos') (tG0 X p (tupG gs))) (hs : swapsWithSole [.Tuple es k pos'] a pos.line X.env = pure false) (hw : swappedStores [.Tuple es k pos'] a X.env = pure none) :
    PS X (.Assign [.Tuple es k pos'] a pos) (tS X p W (settM f gs)) :=
  PSmono (ps_asg he hg hs hw (by rfl)) fun D σ H ⟨lk, L, e, st, g, q⟩ => ⟨lk, L, e, st, g, Res.run_mono (run_bind q) (fun d e' q v H' g' => by
    obtain ⟨e2, he, q⟩ := run_lift (run_bind q)
    exact ⟨lk, L, e', st, d, e2, g', he, fun σ' H' g2 => q σ' H' g2⟩) XS.xw⟩
end
end DG

set_option Elab.async false
set_option linter.all false
set_option maxHeartbeats 4000000
/-! DIq: methods of instances, lent their object. -/
namespace DG
open PySem PySem.Spec PyProof.Rows L2
set_option autoImplicit false
def isInsB (m c : Str) : D → Bool
  | .ins _ c' fs => decide (c' = c) && (getA fs m).isNone
  | _ => false
def methM (m c : Str) (n : Nat) (F : List D → FRes) (f : M D) (r : M (List D)) : M D := f.bind fun d => if isInsB m c d = true then r.bind fun ds => (if (d :: ds).length = n then resM (F (d :: ds)) else .bad) else .bad
/-- the class c has a method m that keeps spF n F -/
structure MthOk (X : Cx) (k : Nat) (m c : Str) (n : Nat) (F : List D → FRes) : Prop where
  ex : ∃ C f fd ps, X.mg c = some (.ref C) ∧ Cls X.K C ∧ Meth X.K C m f ∧ FnOk X.prog X.w X.K X.mg X.base (L2.CX X.prog X.w) k f fd ps (spF X.K X.mg n F) ∧ Binds X.K fd ps []
section
variable {X : Cx} {p : Par} {W : WX} {lk : List Addr} {L : Lk} {σ : L2.St} {H : Hp} {e : Env} {st : Stk} {ws : List Wk} {a b c o : Expr} {pos apos : Pos} {f g h : M D} {fp : M (Nat × Pth)}
theorem ins_of {m cn : Str} {d : D} {x : V} {C : Addr} (g : Gd X p lk L σ H e st (.v x d :: ws)) (hb : isInsB m cn d = true) (hm : X.mg cn = some (.ref C)) : ∃ a dx fs, x = .ref a ∧ H a = some (.ins C dx fs) ∧ fs.lookup m = none := by
  cases d with
  | ins fl c' fs =>
    unfold isInsB at hb
    simp only [Bool.and_eq_true, decide_eq_true_eq, Option.isNone_iff_eq_none] at hb
    obtain ⟨rfl, hn⟩ := hb
    obtain ⟨a, C', dx, fv, B, rfl, at0, o, hm', r, eB⟩ := Rp.ins_inv (g.wr List.mem_cons_self)
    have hm' : X.mg c' = some (.ref C') := hm'
    rw [hm] at hm'; cases hm'
    refine ⟨a, dx, fv, rfl, g.ins at0.rd, ?_⟩
    rw [lookup_getA, getA_none, r.keysF, ← getA_none]; exact hn
  | _ => cases hb
theorem pe_methM {m cn : Str} {k n : Nat} {F : List D → FRes} {es : List Expr} {r : M (List D)} (K : MthOk X k m cn n F) (hr : Room k X.A) (tk : Takes X W) (ho : PE X o (tW X p W f)) (ha : PA X (a :: es) (tAW X p W r)) (hbase : attributeBase o m X.env (eval o X.env) = eval o X.env)
    (hfew : ((backTo pos (starEach (a :: es) X.env)).all (fun x => !x.1) && (backToKw pos (keywordEach [] X.env)).all (fun x => x.1.isSome) && decide ((a :: es).length + ([] : List Keyword).length + (if ([] : List Keyword).isEmpty then 0 else 1) < 30)) = true)
    (hline : (apos.endLine == pos.line) = true) (he : starEach (a :: es) X.env = (false, eval a X.env) :: starEach es X.env) (hpl : (backTo pos (starEach es X.env)).any (·.1) = false) :
    PE X (.Call (.Attribute o m apos) (a :: es) [] pos) (tV X p W (methM m cn n F f r)) := by
  obtain ⟨C, fa, fd, ps, hm, hC, hM, Fn, hb⟩ := K.ex
  refine PEmono (pe_methSG (sp := spF X.K X.mg n F) ho hr (fun σ => passAt tk σ) ha he hpl (meth_eval hbase hfew hline)) fun σ H Q q => tR_mono (tR_bind q) fun lk L e st ws d q x H1 g => ?_
  by_cases hi : isInsB m cn d = true
  case neg => rw [if_neg hi] at q; exact False.elim q
  rw [if_pos hi] at q
  obtain ⟨a', dx, fs, rfl, hH, hl⟩ := ins_of g hi hm
  refine ⟨a', C, dx, fs, rfl, hH, hl, hC, ⟨fa, fd, ps, hM, Fn, hb⟩, lk, L, e, st, .v (.ref a') d :: ws, g, Res.run_mono (run_bind q) (fun ds e' q vs H2 hlen g2 => ?_) fun _ _ _ z => z⟩
  refine Gd.call (ws := ws) (vs := .ref a' :: vs) (ds := d :: ds) (g2.subW fun w hw => ?_) (by simp [hlen]) q
  rw [List.zip_cons_cons, List.map_cons, List.cons_append] at hw
  rcases List.mem_cons.mp hw with hw | hw
  · exact List.mem_append_right _ (hw ▸ List.mem_cons_self)
  · rcases List.mem_append.mp hw with hw | hw
    · exact List.mem_append_left _ hw
    · exact List.mem_append_right _ (List.mem_cons_of_mem _ hw)
theorem pe_methM0 {m cn : Str} {k n : Nat} {F : List D → FRes} (K : MthOk X k m cn n F) (hr : Room k X.A) (tk : Takes X W) (ho : PE X o (tW X p W f)) (hbase : attributeBase o m X.env (eval o X.env) = eval o X.env)
    (hline : (apos.endLine == pos.line) = true) : PE X (.Call (.Attribute o m apos) [] [] pos) (tV X p W (methM m cn n F f (.ret []))) := by
  obtain ⟨C, fa, fd, ps, hm, hC, hM, Fn, hb⟩ := K.ex
  refine PEmono (pe_methSG0 (sp := spF X.K X.mg n F) ho hr (fun σ => passAt tk σ) (meth_eval hbase rfl hline)) fun σ H Q q => tR_mono (tR_bind q) fun lk L e st ws d q x H1 g => ?_
  by_cases hi : isInsB m cn d = true
  case neg => rw [if_neg hi] at q; exact False.elim q
  rw [if_pos hi] at q
  obtain ⟨a', dx, fs, rfl, hH, hl⟩ := ins_of g hi hm
  exact ⟨a', C, dx, fs, rfl, hH, hl, hC, ⟨fa, fd, ps, hM, Fn, hb⟩, Gd.call (ws := ws) (vs := [.ref a']) (ds := [d]) g rfl q⟩
end
end DG

set_option Elab.async false
set_option linter.all false
set_option maxHeartbeats 4000000
/-! DIr: a dict walked by its entries, by its values. -/
namespace DG
open PySem PySem.Spec PyProof.Rows L2
set_option autoImplicit false
/-- a flat thing, as a value -/
def flV : D → V
  | .bl b => .bl b
  | .int i => .int i
  | .str x => .str x
  | _ => .non
theorem flV_of {z : Zo} {H : Hp} {v : V} {d : D} {A : List Addr} (r : Rp z H (.v v d) A) (h : flatD d = true) : v = flV d := by
  cases d <;> simp only [flatD, Bool.false_eq_true] at h <;> cases r <;> rfl
theorem flV_rp (z : Zo) (H : Hp) {d : D} (h : flatD d = true) : Rp z H (.v (flV d) d) [] := by
  cases d <;> simp only [flatD, Bool.false_eq_true] at h <;> constructor
theorem flat_mapF (g : Fl → Fl) {d : D} (h : flatD d = true) : mapF g d = d := by
  cases d <;> simp only [flatD, Bool.false_eq_true] at h <;> rfl
theorem flat_mapFK (g : Fl → Fl) : ∀ {ks : List (Key × D)}, (∀ q ∈ ks, flatD q.2 = true) → mapFK g ks = ks
  | [], _ => rfl
  | (k, d) :: ks, h => by rw [mapFK, flat_mapF _ (h (k, d) List.mem_cons_self), flat_mapFK g fun q hq => h q (List.mem_cons_of_mem _ hq)]
def flKs (ks : List (Key × D)) : List (Key × V) := ks.map fun q => (q.1, flV q.2)
theorem Rp.flK {z : Zo} {H : Hp} : ∀ {kvs : List (Key × V)} {ks : List (Key × D)} {A : List Addr}, Rp z H (.k kvs ks) A → (∀ q ∈ ks, flatD q.2 = true) → kvs = flKs ks
  | _, _, _, .knil, _ => rfl
  | _, _, _, .kcons (k := k) r rr, h => by
    show _ = (k, flV _) :: flKs _
    rw [← Rp.flK rr fun q hq => h q (List.mem_cons_of_mem _ hq), ← flV_of r (h _ List.mem_cons_self)]
section
variable {X : Cx} {p : Par} {W : WX} {lk : List Addr} {L : Lk} {σ : L2.St} {H : Hp} {e : Env} {st : Stk} {ws : List Wk} {a b c o : Expr} {pos apos cpos : Pos} {f g h : M D} {fp : M (Nat × Pth)}
theorem Gd.viewF {io : Bool} {f : Fl} {ks : List (Key × D)} {v : V} (g : Gd X p lk L σ H e ((v, .dk f ks) :: st) ws) (hl : allF noLk (.dk f ks) = true) (hio : io = false → p.O = []) (hf : ∀ q ∈ ks, flatD q.2 = true) :
    Gd X p lk L σ H e ((v, .kd (shF io f) (flKs ks)) :: st) ws := by
  obtain ⟨S, G, A, B, g⟩ := g.freeze hl hio
  cases hs : g.stk with
  | @cons _ _ A1 B1 r rr =>
    obtain ⟨a, xs, C, e1, at0, o, n, rl, rfl⟩ := Rp.dk_inv (show Rp _ _ (.v v (.dk (shF io f) (mapFK (shF io) ks))) A1 from r)
    have e1 : v = .ref a := e1
    subst e1
    have h0 : ∀ b, FlA (shF io f) b = [] := fun b => by
      simp only [allF, Bool.and_eq_true] at hl
      cases f <;> cases io <;> first | rfl | (simp [noLk] at hl)
    have hm : mapFK (shF io) ks = ks := flat_mapFK _ hf
    rw [hm] at rl
    have hx := rl.flK hf
    subst hx
    refine ⟨S, G, A, B1, g.less g.env (.cons (A := []) (.kd h0 at0.rd o) rr) g.wk ⟨FlA (shF io f) a ++ C, ?_⟩ g.pin⟩
    exact List.perm_iff_count.mpr fun x => by simp only [List.count_append]; omega
def itemV (q : Key × D) : D := .tup [keyV q.1, q.2]
theorem itD_items {d : Addr} {o : Obj} {ks : List (Key × D)} {f : Fl} (hf : ∀ q ∈ ks, flatD q.2 = true) (hH : ∀ {L' : Lk} {σ : L2.St} {H : Hp} {e : Env} {front : Stk} {ws : List Wk}, L'.lo = L.lo → Gd X p lk L' σ H e (front ++ (.ref d, .kd f (flKs ks)) :: st) ws → H d = some (.frz o (.dK (flKs ks)))) :
    ItD X p lk L (Iti d o (flKs ks)) (ks.map itemV) ((.ref d, .kd f (flKs ks)) :: st) := fun L' hL i σ H e front ws g => by
  have hd := hH hL g
  rw [List.getElem?_map]
  cases hc : ks[i]? with
  | none => exact ⟨fun d hd => (by cases hd), fun _ _ => ⟨hd, by rw [flKs, List.length_map]; exact List.getElem?_eq_none_iff.mp hc⟩⟩
  | some kv =>
    refine ⟨fun d' hd' => ?_, fun z _ => (by cases z)⟩
    cases hd'
    refine ⟨⟨hd, by rw [flKs, List.length_map]; exact (List.getElem?_eq_some_iff.mp hc).1⟩, fun y H' ⟨T, k, v, h1, h2, h3, h4⟩ => ?_⟩
    subst h2 h4
    rw [flKs, List.getElem?_map, hc] at h1
    cases h1
    have hfl := hf kv (List.mem_of_getElem? hc)
    have g2 := g.push (v := flV kv.2) (d := kv.2) fun z G _ _ => flV_rp z G hfl
    have g3 := g2.push (v := kV kv.1) (d := keyV kv.1) fun z G _ _ => keyV_rp z G _
    exact Gd.mkTup (front := [(kV kv.1, keyV kv.1), (flV kv.2, kv.2)]) g3 h3
abbrev rItems (X : Cx) (R : It → Hp → Prop) : V → Hp → Prop := fun x H1 => ∃ d o kvs, x = .ref d ∧ H1 d = some (.frz o (.dK kvs)) ∧ R (Iti d o kvs) H1
theorem Gd.items {x : V} {f : Fl} {ks : List (Key × D)} {R : It → Hp → Prop} (hf : ∀ q ∈ ks, flatD q.2 = true) (g : Gd X p lk L σ H e ((x, .kd f (flKs ks)) :: st) ws)
    (q : ∀ J H' st' L', LkE X L L' → Gd X p lk L' σ H' e (st' ++ st) ws → ItD X p lk L' J (ks.map itemV) (st' ++ st) → R J H') :
    rItems X R x H ∨ ∃ d u, x = .ref d ∧ H d = some u ∧ Mut (some u) ∧ (NoFz X d → ∀ od, rItems X R x (upd H d (.frz od u))) := by
  obtain ⟨d, rfl, h⟩ := g.lock
  rcases h with ⟨o, h⟩ | ⟨h1, h2, h3⟩
  · exact .inl ⟨d, o, _, rfl, h rfl (front := []) g, q (Iti d o _) H [(.ref d, .kd f (flKs ks))] L .refl g (itD_items hf fun {L' σ H e front ws} hl g => h hl g)⟩
  · refine .inr ⟨d, _, rfl, h1, trivial, fun hn od => ?_⟩
    obtain ⟨g2, h4⟩ := h3 od
    exact ⟨d, od, _, rfl, upd_same, q (Iti d od _) _ [(.ref d, .kd f (flKs ks))] _ (.one d od h2 hn) g2 (itD_items hf fun {L' σ H e front ws} hl g => h4 hl g)⟩
def itemsV (io : Bool) (d : D) : M (List D) := match d with
  | .dk f ks => if allF noLk (.dk f ks) = true ∧ (ks.all fun q => flatD q.2) = true then .ret (ks.map itemV) else .bad
  | _ => .bad
theorem pi_itemsV {elts : List Expr} {kk : Nat} {tpos : Pos} {io : Bool} (hio : io = false → p.O = []) (ha : PE X a (tV X p W f)) (hbase : attributeBase a "items" X.env (eval a X.env) = eval a X.env) (hline : (apos.endLine == cpos.line) = true) :
    PI X (.Tuple elts kk tpos) (.Call (.Attribute a "items" apos) [] [] cpos) (tI X p W (f.bind (itemsV io))) :=
  PImono (pi_items (pe_lockB ha) hbase hline) fun σ H R q => tR_mono (tR_bind q) fun lk L e st ws d q x H1 g => by
    cases d with
    | dk f' ks =>
      unfold itemsV at q
      dsimp only at q
      by_cases hl : allF noLk (.dk f' ks) = true ∧ (ks.all fun q => flatD q.2) = true
      · rw [if_pos hl] at q
        have hf : ∀ q ∈ ks, flatD q.2 = true := List.all_eq_true.mp hl.2
        exact Gd.items hf (g.viewF hl.1 hio hf) fun J H' st' L' hL g3 hJ => q J H' st' L' hL g3 hJ
      · rw [if_neg hl] at q; exact False.elim q
    | _ => exact False.elim q
end
end DG

set_option Elab.async false
set_option linter.all false
set_option maxHeartbeats 4000000
/-! DIs: texts compared; the least, the greatest of texts. -/
namespace L2
open PySem PySem.Spec PyProof.Rows
set_option autoImplicit false
def ltS (x y : Str) : Bool := decide (x.cps.toList < y.cps.toList)
theorem cmp_lt {prog : Program} {w : World} {A : Around} {P : Nat → Value → Prop} (val : Nat → Str) (hval : ∀ i v, P i v → ∃ t, v = .str (val i) t) : CmpOf prog w A .Lt P (fun i j => ltS (val i) (val j)) := fun i j vi vj s Q E hi hj h => by
  obtain ⟨t, rfl⟩ := hval i vi hi
  obtain ⟨u, rfl⟩ := hval j vj hj
  exact richCompare_gives (op := .Lt) (typeIs_str s _ t) (typeIs_str s _ u) PySem.F.slot_str_lt PySem.F.entry_str_lt (PySem.F.args_str_lt_2 _ _) (gives_str_lt _ _ t u) (fun e => nomatch e) h
theorem cmp_gt {prog : Program} {w : World} {A : Around} {P : Nat → Value → Prop} (val : Nat → Str) (hval : ∀ i v, P i v → ∃ t, v = .str (val i) t) : CmpOf prog w A .Gt P (fun i j => ltS (val j) (val i)) := fun i j vi vj s Q E hi hj h => by
  obtain ⟨t, rfl⟩ := hval i vi hi
  obtain ⟨u, rfl⟩ := hval j vj hj
  exact richCompare_gives (op := .Gt) (typeIs_str s _ t) (typeIs_str s _ u) PySem.F.slot_str_gt PySem.F.entry_str_gt (PySem.F.args_str_gt_2 _ _) (gives_str_gt _ _ t u) (fun e => nomatch e) h
def strItems (xs : Array (Str × Tok)) : Array Value := xs.map fun p => .str p.1 p.2
def strAt (xs : Array (Str × Tok)) (i : Nat) : Str := (xs[i]?.map (·.1)).getD ""
theorem strItems_at {xs : Array (Str × Tok)} {i : Nat} {v : Value} (h : (strItems xs)[i]? = some v) : ∃ t, v = .str (strAt xs i) t := by
  simp only [strItems, Array.getElem?_map, Option.map_eq_some_iff] at h
  obtain ⟨p, hp, rfl⟩ := h
  exact ⟨p.2, by simp [strAt, hp]⟩
theorem strItems_size (xs : Array (Str × Tok)) : (strItems xs).size = xs.size := by simp [strItems]
section
variable {prog : Program} {w : World} {A : Around} {E : Value → Shared → Prop} {s : Shared} {l : Addr} {xs : Array (Str × Tok)}
theorem iter_vals {its : Array Value} {Q : Value → Shared → Prop} (hl : s.heap.IsList l its)
    (h : ∀ s₂ : Shared, s₂ = { s with heap := s.heap.push { cls := .type "list_iterator", data := .fields #[.ref l, .int 0 0] } } →
      (s₂.heap.IsListIter s.heap.objs.size l 0 ∧ s₂.heap.IsList l its) → (∀ b ∈ [s.heap.objs.size, l], b < s₂.heap.objs.size) → l ≠ s.heap.objs.size → Q (.ref s.heap.objs.size) s₂) :
    wpAny (model prog w) A (pyIter (.ref l)) Q E s := by
  have hlt : l < s.heap.objs.size := by obtain ⟨_, e, _⟩ := hl; exact Heap.lt_size e
  refine wpAny_pyIter_list hl (h _ rfl ⟨⟨_, Heap.get?_push_size _ rfl, rfl, rfl⟩, hl.push _⟩ (fun b hb => ?_) (Nat.ne_of_lt hlt))
  show b < (s.heap.push _).objs.size
  rw [Heap.size_push]
  rcases List.mem_cons.mp hb with rfl | hb
  · exact Nat.lt_succ_self _
  · rcases List.mem_cons.mp hb with rfl | hb
    · exact Nat.lt_succ_of_lt hlt
    · cases hb
theorem min_strs {Q : Value → Shared → Prop} (hh : A.handled = none) (hl : s.heap.IsList l (strItems xs)) (hne : 0 < xs.size)
    (h : ∀ v h' tk, (strItems xs)[argBest (fun i j => ltS (strAt xs i) (strAt xs j)) (xs.size - 1)]? = some v → (∀ b o, s.heap.get? b = some o → h'.get? b = some o) → Q v { s with heap := h', toks := tk }) :
    wpAny (model prog w) A (call (.builtin "min") [.ref l]) Q E s := by
  refine call_min_walk (iter_vals hl fun s₂ e st hfp hlI => ?_)
  subst e
  refine ⟨_, _, _, _, _, _, _, rfl, Walks.list (A := A.in1) hh _ l hlI (strItems xs), st, hfp, by simpa [strItems] using hne, cmp_lt (strAt xs) (fun _ _ => strItems_at), fun v h' tk hP hk => ?_⟩
  exact h v h' tk (by simpa [strItems] using hP) (old_kept hk)
theorem two_strs (gt : Bool) {a b : Str} {t u : Tok} {Q : Value → Shared → Prop} (hh : A.handled = none)
    (h : ∀ h' tk, (∀ c o, s.heap.get? c = some o → h'.get? c = some o) → Q (if (if gt then ltS a b else ltS b a) = true then .str b u else .str a t) { s with heap := h', toks := tk }) :
    wpAny (model prog w) A (call (.builtin (if gt then "max" else "min")) [.str a t, .str b u]) Q E s := by
  have hT : (s.heap.push { cls := .type "tuple", data := .seq #[.str a t, .str b u] }).IsTuple s.heap.objs.size (strItems #[(a, t), (b, u)]) := ⟨_, Heap.get?_push_size _ rfl, rfl, 0, by simp [strItems]⟩
  have hsz : (s.heap.push { cls := .type "tuple", data := .seq #[.str a t, .str b u] }).objs.size = s.heap.objs.size + 1 := Heap.size_push ..
  have s0 : strAt #[(a, t), (b, u)] 0 = a := rfl
  have s1 : strAt #[(a, t), (b, u)] 1 = b := rfl
  have hfp : ∀ c ∈ [s.heap.objs.size + 1, s.heap.objs.size], c < ((s.heap.push { cls := .type "tuple", data := .seq #[.str a t, .str b u] }).push { cls := .type "tuple_iterator", data := .fields #[.ref s.heap.objs.size, .int 0 0] }).objs.size := fun c hc => by
    rw [Heap.size_push, hsz]
    rcases List.mem_cons.mp hc with rfl | hc
    · exact Nat.lt_succ_self _
    · rcases List.mem_cons.mp hc with rfl | hc
      · exact Nat.lt_succ_of_lt (Nat.lt_succ_self _)
      · cases hc
  cases gt with
  | true =>
    refine call_max_two (wpAny_pyIter_tuple hT ?_)
    refine ⟨_, [_, s.heap.objs.size], [_], _, _, _, _, rfl, Walks.tuple (A := A.in1) hh _ s.heap.objs.size (by rw [hsz]; exact Nat.ne_of_lt (Nat.lt_succ_self _)) (strItems #[(a, t), (b, u)]),
      ⟨⟨_, Heap.get?_push_size _ rfl, rfl, rfl⟩, hT.push _⟩, fun c hc => hfp c (by rw [← hsz]; exact hc), by simp [strItems], cmp_gt (strAt #[(a, t), (b, u)]) (fun _ _ => strItems_at), fun v h' tk hP hk => ?_⟩
    have hold : ∀ c o, s.heap.get? c = some o → h'.get? c = some o := fun c o e => by
      refine hk c o (fun hm => ?_) (Heap.get?_push_of_some _ (Heap.get?_push_of_some _ e))
      rcases List.mem_cons.mp hm with e1 | hm
      · have := Heap.lt_size e; rw [e1, hsz] at this; exact Nat.lt_irrefl _ (Nat.lt_of_succ_lt this)
      · cases hm
    have := h h' tk hold
    have hv : v = if ltS a b = true then Value.str b u else Value.str a t := by
      have hP' : (strItems #[(a, t), (b, u)])[argBest (fun i j => ltS (strAt #[(a, t), (b, u)] j) (strAt #[(a, t), (b, u)] i)) 1]? = some v := by
        have hsz2 : (strItems #[(a, t), (b, u)]).size - 1 = 1 := by simp [strItems]
        rw [← hsz2]; exact hP
      by_cases hba : ltS a b = true
      · have e : argBest (fun i j => ltS (strAt #[(a, t), (b, u)] j) (strAt #[(a, t), (b, u)] i)) 1 = 1 := by simp [argBest, s0, s1, hba]
        rw [e] at hP'
        simpa [strItems, hba] using hP'.symm
      · have e : argBest (fun i j => ltS (strAt #[(a, t), (b, u)] j) (strAt #[(a, t), (b, u)] i)) 1 = 0 := by simp [argBest, s0, s1, hba]
        rw [e] at hP'
        simpa [strItems, hba] using hP'.symm
    rw [hv]; exact this
  | false =>
    refine call_min_two (wpAny_pyIter_tuple hT ?_)
    refine ⟨_, [_, s.heap.objs.size], [_], _, _, _, _, rfl, Walks.tuple (A := A.in1) hh _ s.heap.objs.size (by rw [hsz]; exact Nat.ne_of_lt (Nat.lt_succ_self _)) (strItems #[(a, t), (b, u)]),
      ⟨⟨_, Heap.get?_push_size _ rfl, rfl, rfl⟩, hT.push _⟩, fun c hc => hfp c (by rw [← hsz]; exact hc), by simp [strItems], cmp_lt (strAt #[(a, t), (b, u)]) (fun _ _ => strItems_at), fun v h' tk hP hk => ?_⟩
    have hold : ∀ c o, s.heap.get? c = some o → h'.get? c = some o := fun c o e => by
      refine hk c o (fun hm => ?_) (Heap.get?_push_of_some _ (Heap.get?_push_of_some _ e))
      rcases List.mem_cons.mp hm with e1 | hm
      · have := Heap.lt_size e; rw [e1, hsz] at this; exact Nat.lt_irrefl _ (Nat.lt_of_succ_lt this)
      · cases hm
    have := h h' tk hold
    have hv : v = if ltS b a = true then Value.str b u else Value.str a t := by
      have hP' : (strItems #[(a, t), (b, u)])[argBest (fun i j => ltS (strAt #[(a, t), (b, u)] i) (strAt #[(a, t), (b, u)] j)) 1]? = some v := by
        have hsz2 : (strItems #[(a, t), (b, u)]).size - 1 = 1 := by simp [strItems]
        rw [← hsz2]; exact hP
      by_cases hba : ltS b a = true
      · have e : argBest (fun i j => ltS (strAt #[(a, t), (b, u)] i) (strAt #[(a, t), (b, u)] j)) 1 = 1 := by simp [argBest, s0, s1, hba]
        rw [e] at hP'
        simpa [strItems, hba] using hP'.symm
      · have e : argBest (fun i j => ltS (strAt #[(a, t), (b, u)] i) (strAt #[(a, t), (b, u)] j)) 1 = 0 := by simp [argBest, s0, s1, hba]
        rw [e] at hP'
        simpa [strItems, hba] using hP'.symm
    rw [hv]; exact this
end
/-- the first least of texts -/
def minF (b : Str) (y : Str) : Str := if ltS y b = true then y else b
def minS : List Str → Option Str
  | [] => none
  | x :: r => some (r.foldl minF x)
theorem argBest_fold (f : Nat → Str) : ∀ k, f (argBest (fun i j => ltS (f i) (f j)) k) = ((List.range k).map fun i => f (i + 1)).foldl minF (f 0) ∧ argBest (fun i j => ltS (f i) (f j)) k ≤ k
  | 0 => ⟨rfl, Nat.le_refl _⟩
  | k + 1 => by
    obtain ⟨ih, hle⟩ := argBest_fold f k
    rw [List.range_succ, List.map_append, List.foldl_append, ← ih]
    show f (if ltS (f (k + 1)) (f (argBest _ k)) = true then k + 1 else argBest _ k) = minF (f (argBest _ k)) (f (k + 1)) ∧ (if ltS (f (k + 1)) (f (argBest _ k)) = true then k + 1 else argBest _ k) ≤ k + 1
    unfold minF
    by_cases h : ltS (f (k + 1)) (f (argBest (fun i j => ltS (f i) (f j)) k)) = true
    · rw [if_pos h, if_pos h]; exact ⟨rfl, Nat.le_refl _⟩
    · rw [if_neg h, if_neg h]; exact ⟨rfl, Nat.le_succ_of_le hle⟩
theorem vals_strs2 : ∀ {l : List Str} {us : List Value}, Vals (l.map V.str) us → ∃ xs : Array (Str × Tok), us.toArray = strItems xs ∧ xs.toList.map (·.1) = l
  | [], _, .nil => ⟨#[], by simp [strItems], rfl⟩
  | x :: l, u :: us, .cons r rr => by
    obtain ⟨xs, h1, h2⟩ := vals_strs2 rr
    obtain ⟨t, rfl⟩ := r
    refine ⟨⟨(x, t) :: xs.toList⟩, ?_, by simp [h2]⟩
    have : us = (strItems xs).toList := by rw [← h1]
    rw [this]
    simp [strItems]
section
variable {X : Cx}
theorem call_minS (hc : X.calm = true) : CallR X (.builtin "min") (fun xs H Q => ∃ (a : Addr) (l : List Str) (m : Str), xs = [.ref a] ∧ SqL X.K H a (l.map V.str) ∧ minS l = some m ∧ Q (.str m) H) := by
  intro pins s σ H xs us Q I r h
  obtain ⟨a, l, m, rfl, hs, hm, q⟩ := h
  obtain ⟨its, rv, hl, _⟩ := I.list hs
  rw [Vals.ref1 r]
  obtain ⟨arr, h1, h2⟩ := vals_strs2 rv
  have hl2 : s.heap.IsList a (strItems arr) := by rw [← h1]; exact hl.isList
  cases l with
  | nil => cases hm
  | cons x l =>
    have hsz : arr.size = l.length + 1 := by
      have := congrArg List.length h2
      simpa using this
    refine min_strs (I.ok.hd hc) hl2 (by omega) fun v h' tk hv hk => ?_
    obtain ⟨t, rfl⟩ := strItems_at hv
    obtain ⟨k1, k2⟩ := argBest_fold (strAt arr) (arr.size - 1)
    have e : strAt arr (argBest (fun i j => ltS (strAt arr i) (strAt arr j)) (arr.size - 1)) = m := by
      have hg : ∀ i, strAt arr i = ((x :: l)[i]?).getD "" := fun i => by
        unfold strAt
        rw [← h2, List.getElem?_map, Array.getElem?_toList]
      rw [k1, hsz, Nat.add_sub_cancel]
      have e1 : ((List.range l.length).map fun i => strAt arr (i + 1)) = l := by
        refine List.ext_getElem (by simp) fun i h1 h2 => ?_
        rw [List.getElem_map, List.getElem_range, hg, List.getElem?_cons_succ, List.getElem?_eq_getElem h2]; rfl
      rw [e1, hg 0]
      exact Option.some.inj hm
    rw [e]
    exact ⟨.str m, H, I.kept hk, ⟨_, rfl⟩, q⟩
theorem call_two (gt : Bool) (hc : X.calm = true) : CallR X (.builtin (if gt then "max" else "min")) (fun xs H Q => ∃ i j, xs = [.str i, .str j] ∧ Q (.str (if (if gt then ltS i j else ltS j i) = true then j else i)) H) := by
  intro pins s σ H xs us Q I r h
  obtain ⟨i, j, rfl, q⟩ := h
  obtain ⟨u, w', rfl, ⟨t, rfl⟩, ⟨t', rfl⟩⟩ := vals2 r
  refine two_strs gt (I.ok.hd hc) fun h' tk k => ⟨_, H, I.kept k, ?_, q⟩
  by_cases hj : (if gt then ltS i j else ltS j i) = true
  · rw [if_pos hj, if_pos hj]; exact ⟨_, rfl⟩
  · rw [if_neg hj, if_neg hj]; exact ⟨_, rfl⟩
end
end L2
namespace DG
open PySem PySem.Spec PyProof.Rows L2
set_option autoImplicit false
def lenE : List D → Option Nw
  | [.dk _ ks] => some (.sc (.int ks.length))
  | ds => lenD ds
def minE : List D → Option Nw
  | [.str i, .str j] => some (.sc (.str (if ltS j i = true then j else i)))
  | [.lst _ ds] => (strsD ds).bind fun l => (minS l).map fun m => .sc (.str m)
  | ds => minD ds
def maxE : List D → Option Nw
  | [.str i, .str j] => some (.sc (.str (if ltS i j = true then j else i)))
  | ds => maxD ds
section
variable {X : Cx}
theorem call_lenRd : CallR X (.builtin "len") (fun xs H Q => ∃ a kvs, xs = [V.ref a] ∧ Rd H a (.dK kvs) ∧ Q (.int kvs.length) H) := by
  intro pins s σ H xs us Q I r h
  obtain ⟨a, kvs, rfl, ha, q⟩ := h
  obtain ⟨u, rfl, ru⟩ := vals1 r
  cases ru
  exact d_len I ha fun t s' I' => ⟨.int kvs.length, H, I', ⟨t, rfl⟩, q⟩
theorem cn_lenE : CallN X (.builtin "len") lenE := by
  have base := L2.CallR.or (X := X) call_lenRd cn_len
  intro pins s σ H xs us Q I r ⟨nf, ds, n, hl, hw, ho, q⟩
  refine base pins s σ H xs us Q I r ?_
  unfold lenE at ho
  split at ho
  · rename_i f ks
    obtain ⟨v, rfl⟩ := len1 hl
    cases ho
    obtain ⟨a, kvs, rfl, rd, rk⟩ := Wr_dk (hw (v, .dk f ks) (by simp))
    obtain ⟨v, hv, q⟩ := q
    cases hv
    refine .inl ⟨a, kvs, rfl, rd, ?_⟩
    have : kvs.length = ks.length := by have := congrArg List.length rk.keysK; simpa using this
    rw [this]; exact q
  · exact .inr ⟨nf, ds, n, hl, hw, ho, q⟩
theorem cn_minE (hc : X.calm = true) : CallN X (.builtin "min") minE := by
  have base := L2.CallR.or (X := X) (L2.CallR.or (call_two false hc) (call_minS hc)) (cn_min hc)
  intro pins s σ H xs us Q I r ⟨nf, ds, n, hl, hw, ho, q⟩
  refine base pins s σ H xs us Q I r ?_
  unfold minE at ho
  split at ho
  · rename_i i j
    obtain ⟨v, u, rfl⟩ := len2 hl
    cases Wr_str (hw (v, .str i) (by simp))
    cases Wr_str (hw (u, .str j) (by simp))
    cases ho
    obtain ⟨v, hv, q⟩ := q
    cases hv
    exact .inl (.inl ⟨i, j, rfl, q⟩)
  · rename_i f ds
    obtain ⟨v, rfl⟩ := len1 hl
    obtain ⟨a, vs, rfl, rd, rl⟩ := Wr_lst (hw (v, .lst f ds) (by simp))
    cases h1 : strsD ds with
    | none => rw [h1] at ho; cases ho
    | some l =>
      cases h2 : minS l with
      | none => rw [h1, Option.bind_some, h2] at ho; cases ho
      | some m =>
        rw [h1, Option.bind_some, h2] at ho
        cases ho
        obtain ⟨v, hv, q⟩ := q
        cases hv
        exact .inl (.inr ⟨a, l, m, rfl, .inl (by rw [← strsD_of rl h1]; exact rd), h2, q⟩)
  · exact .inr ⟨nf, ds, n, hl, hw, ho, q⟩
theorem cn_maxE (hc : X.calm = true) : CallN X (.builtin "max") maxE := by
  have base := L2.CallR.or (X := X) (call_two true hc) (cn_max hc)
  intro pins s σ H xs us Q I r ⟨nf, ds, n, hl, hw, ho, q⟩
  refine base pins s σ H xs us Q I r ?_
  unfold maxE at ho
  split at ho
  · rename_i i j
    obtain ⟨v, u, rfl⟩ := len2 hl
    cases Wr_str (hw (v, .str i) (by simp))
    cases Wr_str (hw (u, .str j) (by simp))
    cases ho
    obtain ⟨v, hv, q⟩ := q
    cases hv
    exact .inl ⟨i, j, rfl, q⟩
  · exact .inr ⟨nf, ds, n, hl, hw, ho, q⟩
end
end DG

set_option Elab.async false
set_option linter.all false
set_option maxHeartbeats 4000000
/-! DIt: x += e; a comprehension over a list that stays its name's own. -/
namespace DG
open PySem PySem.Spec PyProof.Rows L2
set_option autoImplicit false
section
variable {X : Cx} {p : Par} {W : WX} {lk : List Addr} {L : Lk} {σ : L2.St} {H : Hp} {e : Env} {st : Stk} {ws : List Wk} {a b c o : Expr} {pos apos cpos : Pos} {f g h : M D} {fp : M (Nat × Pth)}
/-! ### x += e, whole numbers -/
def augK (io : Bool) (i : Nat) (j : Int) (d : D) : M Fw := match d with
  | .int k => (liftT (putE io i) (.int (j + k))).bind fun _ => .ret .next
  | _ => .bad
def augM (io : Bool) (i : Nat) (f : M D) : M Fw := fun e => match e[i]? with
  | some (some (.int j)) => f.bind (augK io i j) e
  | _ => .bad
theorem ps_augM {i : Nat} {x : Str} {io : Bool} {pos' : Pos} (hio : io = false → p.io = none) (hN : X.N.Nodup) (hi : X.N[i]? = some x) (hx : Loc X.env.scope x) (he : PE X a (tW X p W f)) (hf : X.fn x = true ∨ X.env.scope.names.lookup x = some .local) :
    PS X (.AugAssign (.Name x pos') .Add a pos) (tS X p W (augM io i f)) :=
  PSmono (ps_aug hN hi hx he ip_add hf) fun D σ H ⟨lk, L, e, st, g, q⟩ => by
    unfold augM at q
    split at q
    · rename_i j hj
      obtain ⟨v, h1, g2⟩ := g.slotW hj
      have e1 : v = .int j := by
        have := g2.wr (v := v) (d := lend (.int j)) List.mem_cons_self
        cases this; rfl
      subst e1
      refine ⟨.int j, h1, lk, L, e, st, [], g, Res.run_mono (run_bind q) (fun d e' q v H' g' => ?_) XS.xw⟩
      unfold augK at q
      split at q
      · rename_i k
        have e2 : v = .int k := by
          have := g'.wr (v := v) (d := .int k) List.mem_cons_self
          cases this; rfl
        subst e2
        refine ⟨j, k, rfl, rfl, ?_⟩
        obtain ⟨e2, he, q⟩ := run_lift (run_bind q)
        obtain ⟨h1, h2, rfl⟩ := putE_of he
        have g3 := (g'.subW (ws' := []) fun w hw => (by cases hw)).push (v := .int (j + k)) (d := .int (j + k)) fun z G _ _ => .int _
        exact q _ _ (g3.store h1 (h2.elim (fun z => .inl (hio z)) .inr) (.inl rfl))
      · exact False.elim q
    · exact False.elim q
/-! ### a comprehension over a name's own list -/
theorem Gd.restore {i : Nat} {v : V} {d : D} (g : Gd X p lk L σ H e ((v, d) :: st) ws) (hi : i < e.length) (hs : σ[i]? = some (some v)) : Gd X p lk L σ H (e.set i (some d)) st ws := by
  obtain ⟨S, G, A, B, g⟩ := g
  cases hst : g.stk with
  | @cons _ _ A1 B1 r rr =>
    obtain ⟨A2, k1, C, k2⟩ := g.env.kill i
    have q : (e.set i none)[i]? = some none := List.getElem?_set_self hi
    obtain ⟨A3, k3, k4⟩ := k1.put q r
    rw [List.set_set] at k3
    have es : σ.set i (some v) = σ := by
      apply List.ext_getElem?
      intro j
      by_cases hj : j = i
      · subst hj; rw [List.getElem?_set_self (List.getElem?_eq_some_iff.mp hs).1, hs]
      · rw [List.getElem?_set_ne (Ne.symm hj)]
    rw [es] at k3
    refine ⟨S, G, A3, B1, g.less k3 rr g.wk ⟨C, ?_⟩ g.pin⟩
    show (A ++ (A1 ++ B1)).Perm (C ++ (A3 ++ B1))
    refine (List.Perm.append_right _ k2).trans ?_
    rw [List.append_assoc]
    refine List.Perm.append_left _ ?_
    rw [← List.append_assoc]
    refine List.Perm.append_right _ ?_
    exact List.perm_append_comm.trans k4.symm
theorem lc_run {vs : List Nat} {ft : D → Env → Option Env} {ftest : M Bool} {fe : M D} {Q : VK} {J : It} {st1 : Stk} {ds : List D} {e1 : Env} {ex : Str → List (Str × D) → Env → Prop} (h0 : 0 ∈ p.nl) (hn : ∀ i ∈ vs, i ∉ p.nl) (g1 : Gd X p lk L σ H e1 st1 ws) (hJ : ItD X p lk L J ds st1)
    (q : (lcLoop vs ft ftest fe ds [] (DG.killAll vs e1)).run (fun d e' => ∀ v H', Gd X p lk L σ H' e' ((v, d) :: st1) ws → Q v H') ex) (D : Addr) (hD : H D = none) :
    ∃ Wv : Nat → Nat → Hp → Prop, (∃ m, Wv 0 m (upd H D (.lst []))) ∧ ∀ i m H, Wv i m H →
      (J.stop i H ∧ Q (.ref D) H) ∨ (J.go i H ∧ ∃ Nx : Hp → Prop, (∀ H', Nx H' → ∃ m', m' < m ∧ Wv (i + 1) m' H') ∧ ∀ x H', J.yld i H x H' → tGo X p vs ft x (wipe σ vs) H' fun σ2 H2 => wipe σ2 vs = wipe σ vs ∧ tT X p W0 ftest σ2 H2 fun b H3 =>
        if b = true then tV X p W0 fe σ2 H3 fun y H4 => ∃ acc, H4 D = some (.lst acc) ∧ acc.length < sizeLine ∧ Nx (upd H4 D (.lst (acc ++ [y]))) else Nx H3) := by
  have dead : ∀ i, i ∈ vs → ¬ ∃ d, (DG.killAll vs e1)[i]? = some (some d) := fun i hi h => (killAll_get vs e1 i h).1 hi
  have g1 := Gd.killAll vs g1
  generalize DG.killAll vs e1 = e1 at dead g1 q
  have g0 : Gd X p lk L (wipe σ vs) H e1 st1 ws := g1.slots (wipe_length σ vs) (fun i hi => by
    rw [wipe_get]
    refine if_neg fun z => ?_
    rcases hi with hi | hi
    · exact dead i z.1 hi
    · exact absurd hi (hn i z.1)) h0
  obtain ⟨g2, hh⟩ := g0.hide (o := .lst []) hD trivial
  have back : ∀ {L'' : Lk} {σ2 : L2.St} {H2 : Hp} {e2 : Env} {st2 : Stk}, σ2.length = σ.length → (∀ i, i ∉ vs → σ2[i]? = σ[i]?) → Gd X p lk L'' σ2 H2 e2 st2 ws → Gd X p lk L'' (wipe σ vs) H2 (DG.killAll vs e2) st2 ws := fun {L'' σ2 H2 e2 st2} hl ho g => by
    refine (Gd.killAll vs g).slots (by rw [wipe_length, hl]) (fun i hi => ?_) h0
    have ni : i ∉ vs := by
      rcases hi with hi | hi
      · exact (killAll_get vs e2 i hi).1
      · exact fun z => hn i z hi
    rw [wipe_get, if_neg fun z => ni z.1, ho i ni]
  have deadK : ∀ (e2 : Env) (i : Nat), i ∈ vs → ¬ ∃ d, (DG.killAll vs e2)[i]? = some (some d) := fun e2 i hi hd => (killAll_get vs e2 i hd).1 hi
  refine ⟨fun i m H => m = ds.length - i ∧ i ≤ ds.length ∧ ∃ (e : Env) (xs : List V) (as : List DG.D), xs.length = as.length ∧ Gd X p lk ⟨L.lo, (D, .lst xs) :: L.hd⟩ (wipe σ vs) H e (xs.zip as ++ st1) ws ∧ (∀ i, i ∈ vs → ¬ ∃ d, e[i]? = some (some d)) ∧
    (lcLoop vs ft ftest fe (ds.drop i) as e).run (fun d e' => ∀ v H', Gd X p lk L σ H' e' ((v, d) :: st1) ws → Q v H') ex, ⟨ds.length, by simp, Nat.zero_le _, e1, [], [], rfl, g2, dead, q⟩, ?_⟩
  rintro i m H ⟨rfl, hi, e, xs, as, hl, g, dd, q⟩
  obtain ⟨k1, k2⟩ := hJ ⟨L.lo, (D, .lst xs) :: L.hd⟩ rfl i (wipe σ vs) H e (xs.zip as) ws g
  by_cases hlt : i < ds.length
  · obtain ⟨go, yl⟩ := k1 ds[i] (List.getElem?_eq_getElem hlt)
    refine .inr ⟨go, fun H' => ∃ (e : Env) (xs : List V) (as : List DG.D), xs.length = as.length ∧ Gd X p lk ⟨L.lo, (D, .lst xs) :: L.hd⟩ (wipe σ vs) H' e (xs.zip as ++ st1) ws ∧ (∀ i, i ∈ vs → ¬ ∃ d, e[i]? = some (some d)) ∧
      (lcLoop vs ft ftest fe (ds.drop (i + 1)) as e).run (fun d e' => ∀ v H', Gd X p lk L σ H' e' ((v, d) :: st1) ws → Q v H') ex, fun H' ⟨e', xs', as', a1, a2, a3, a4⟩ => ⟨ds.length - (i + 1), by omega, rfl, hlt, e', xs', as', a1, a2, a3, a4⟩, fun x H' y => ?_⟩
    have g3 := yl x H' y
    rw [List.drop_eq_getElem_cons hlt] at q
    obtain ⟨e2, hft, q⟩ := run_lift (run_bind q)
    refine ⟨lk, _, e, xs.zip as ++ st1, ws, ds[i], e2, g3, hft, fun σ2 H2 hsl hso g4 => ?_⟩
    have hsl' : σ2.length = σ.length := by rw [hsl, wipe_length]
    have hso' : ∀ j, j ∉ vs → σ2[j]? = σ[j]? := fun j hj => by rw [hso j hj, wipe_get, if_neg fun z => hj z.1]
    refine ⟨wipe_eq hsl' hso', lk, _, e2, xs.zip as ++ st1, ws, g4, ?_⟩
    refine Res.run_mono (run_noexc (ex' := fun _ _ _ => False) (run_bind q)) (fun b e3 q H3 g5 => ?_) fun _ _ _ z => z.elim
    cases b with
    | false =>
      rw [if_neg Bool.false_ne_true]
      exact ⟨DG.killAll vs e3, xs, as, hl, back hsl' hso' g5, deadK e3, q⟩
    | true =>
      rw [if_pos rfl]
      refine ⟨lk, _, e3, xs.zip as ++ st1, ws, g5, ?_⟩
      refine Res.run_mono (run_noexc (ex' := fun _ _ _ => False) (run_bind (run_bind q))) (fun y e4 q v H4 g6 => ?_) fun _ _ _ z => z.elim
      refine ⟨xs, g6.hid, ?_⟩
      by_cases hsz : as.length < sizeLine
      · rw [if_pos hsz] at q
        refine ⟨by rw [hl]; exact hsz, DG.killAll vs e4, xs ++ [v], as ++ [y], by simp [hl], back hsl' hso' ((g6.rehide (o' := .lst (xs ++ [v])) trivial).perm ?_), deadK e4, q⟩
        rw [List.zip_append hl, List.append_assoc]
        exact List.perm_middle.symm
      · rw [if_neg hsz] at q; exact False.elim q
  · have e0 : i = ds.length := by omega
    subst e0
    rw [List.drop_length] at q
    refine .inl ⟨k2 (List.getElem?_eq_none_iff.mpr (Nat.le_refl _)) rfl, ?_⟩
    have g6 : Gd X p lk L (wipe σ vs) H e ((.ref D, .lst .own as) :: st1) ws := Gd.unhide g hh (.lst .own as) true fun z G B kK kg hz hG rS => by
      have := rS.toL
      rw [zip_fst hl, zip_snd hl] at this
      exact .lst (f := .own) hG hz this
    have g7 : Gd X p lk L σ H e ((.ref D, .lst .own as) :: st1) ws := g6.slots (wipe_length σ vs).symm (fun i hi => by
      rw [wipe_get, if_neg fun z => ?_]
      rcases hi with hi | hi
      · exact dd i z.1 hi
      · exact absurd hi (hn i z.1)) h0
    exact q _ H g7
/-- over the list of the name at i, which stays its own -/
def lcU (own : List Nat) (i : Nat) (ft : D → Env → Option Env) (ftest : M Bool) (fe : M D) : M D := fun e => match e[i]? with
  | some (some (.lst f ds)) => if allFL noOwn ds = true ∧ i ∉ own then (match lcLoop own ft ftest fe ds [] (DG.killAll own (e.set i none)) with
      | .ok d e' => if i < e'.length then .ok d (e'.set i (some (.lst f ds))) else .bad
      | _ => .bad) else .bad
  | _ => .bad
theorem lcU_imp {vs : List Nat} {i : Nat} {ft : D → Env → Option Env} {ftest : M Bool} {fe : M D} {Q : VK} (h0 : 0 ∈ p.nl) (hn : ∀ i ∈ vs, i ∉ p.nl) (q : tV X p W (lcU vs i ft ftest fe) σ H Q) :
    tLc (fun σ H R => ∃ v, σ[i]? = some (some v) ∧ ∃ a, v = .ref a ∧ (∃ xs, SqL X.K H a xs) ∧ R (Itl X.K a) H) (tGo X p vs ft) (tT X p W0 ftest) (tV X p W0 fe) vs σ H Q := by
  obtain ⟨lk, L, e, st, ws, g, q⟩ := q
  unfold lcU at q
  split at q
  case h_2 => exact False.elim q
  rename_i f ds he
  by_cases hc : allFL noOwn ds = true ∧ i ∉ vs
  case neg => rw [if_neg hc] at q; exact False.elim q
  rw [if_pos hc] at q
  obtain ⟨v, hv, g2⟩ := g.slotM he
  obtain ⟨a, xs, rfl, rd, hl, _⟩ := Gd.item (front := []) g2 hc.1
  refine ⟨_, hv, a, rfl, ⟨xs, .inl rd⟩, fun D hD => ?_⟩
  have hJ : ItD X p lk L (Itl X.K a) ds ((.ref a, .lst f ds) :: st) := fun L' _ j σ' H' e' front ws' g' => by
    obtain ⟨a', xs', e1, rd', hl', k⟩ := Gd.item (st' := st) g' hc.1
    cases e1
    refine ⟨fun d hd => ?_, fun hn _ => ⟨xs', .inl rd', by rw [hl']; exact List.getElem?_eq_none_iff.mp hn⟩⟩
    have hi : j < xs'.length := by rw [hl']; exact (List.getElem?_eq_some_iff.mp hd).1
    refine ⟨⟨xs', xs'[j], .inl rd', List.getElem?_eq_getElem hi⟩, fun x H'' ⟨hy1, hy2⟩ => ?_⟩
    subst hy1
    exact k j x d (hy2 xs' (.inl rd')) hd
  refine lc_run (ex := fun _ _ _ => False) h0 hn g2 hJ ?_ D hD
  cases hr : lcLoop vs ft ftest fe ds [] (DG.killAll vs (e.set i none)) with
  | bad => rw [hr] at q; exact q
  | exc c fs e' => rw [hr] at q; exact q
  | ok d e' =>
    rw [hr] at q
    dsimp only at q
    by_cases hi : i < e'.length
    · rw [if_pos hi] at q
      exact fun v H' g3 => q v H' (Gd.restore (g3.perm (List.Perm.swap _ _ _)) hi hv)
    · rw [if_neg hi] at q; exact False.elim q
theorem pe_lcU {elt : Expr} {tg : Expr} {ifs : List Expr} {scope : Scope} {own : List (Str × Nat)} {i : Nat} {x : Str} {p1 : Pos} {ft : D → Env → Option Env} {ftest : M Bool} {fe : M D} (hc : X.calm = true) (hN : X.N.Nodup) (h0 : 0 ∈ p.nl) (hn : ∀ i ∈ own.map (·.2), i ∉ p.nl)
    (hNi : X.N[i]? = some x) (hv : Vis X.env.scope x) (hd : (x == ("__debug__" : Str)) = false) (hcd : (x == ("__classdict__" : Str)) = false) (ok : BlkOk X.N X.env.scope scope own)
    (hg : ∀ (s : Shared) (H : Hp) (C : Addr) (cl : List (Str × Addr)) (fp : List Addr), PG (X.blk s H scope (compEnvC scope cl C X.env) fp) tg (tGo X p (own.map (·.2)) ft))
    (ht : ∀ (s : Shared) (H : Hp) (C : Addr) (cl : List (Str × Addr)) (fp : List Addr), PTs (X.blk s H scope (compEnvC scope cl C X.env) fp) ifs (tT X p W0 ftest))
    (he : ∀ (s : Shared) (H : Hp) (C : Addr) (cl : List (Str × Addr)) (fp : List Addr), PE (X.blk s H scope (compEnvC scope cl C X.env) fp) elt (tV X p W0 fe)) :
    PE X (.ListComp elt [⟨tg, .Name x p1, ifs, 0⟩] scope pos) (tV X p W (lcU (own.map (·.2)) i ft ftest fe)) :=
  PEmono (pe_lc hc hN (pi_list (pe_var (pos := p1) hNi hv hd hcd)) ok hg ht he (fun _ => rfl)) fun σ H Q q => lcU_imp h0 hn q
end
end DG

set_option Elab.async false
set_option linter.all false
set_option maxHeartbeats 4000000
/-! DJa: walks; the pieces; what is bundled. -/
namespace DG
open PySem PySem.Spec PyProof.Rows L2
set_option autoImplicit false
section
variable {X : Cx} {p : Par} {W : WX} {lk : List Addr} {L : Lk} {σ : L2.St} {H : Hp} {e : Env} {st : Stk} {ws : List Wk} {a b c : Expr} {pos : Pos} {f g h : M D} {fp : M (Nat × Pth)}
/-! ### walks -/
theorem itD_str {x : Str} : ItD X p lk L (Its x) (chars x) st := fun L' _ i σ H e front ws g => by
  unfold chars
  rw [List.getElem?_map, Array.getElem?_toList]
  cases hc : x.cps[i]? with
  | none => exact ⟨fun d hd => (by cases hd), fun _ _ => Array.getElem?_eq_none_iff.mp hc⟩
  | some c =>
    refine ⟨fun d hd => ?_, fun hd _ => (by cases hd)⟩
    cases hd
    refine ⟨(Array.getElem?_eq_some_iff.mp hc).1, fun y H' ⟨h1, c', h2, h3⟩ => ?_⟩
    subst h1 h3
    rw [hc] at h2
    cases h2
    exact g.push fun z G _ _ => .str _
/-- a text, a list, a dict is walked -/
def itL (io : Bool) (d : D) : M (List D) := match d with
  | .str x => .ret (chars x)
  | .dk f ks => keysV io (.dk f ks)
  | d => frzL io d
theorem pi_seqM {tg : Expr} {io : Bool} (hio : io = false → p.O = []) (ha : PE X a (tV X p W f)) : PI X tg a (tI X p W (f.bind (itL io))) :=
  PImono (PI.or (PI.or (pi_str ha) (pi_lstM hio ha)) (pi_keysV hio ha)) fun σ H R q => by
    obtain ⟨lk, L, e, st, ws, gd, q⟩ := q
    unfold M.bind at q
    cases hf : f e with
    | bad => rw [hf] at q; exact False.elim q
    | exc c fs e' =>
      rw [hf] at q
      refine .inl (.inl ⟨lk, L, e, st, ws, gd, ?_⟩)
      rw [hf]; exact q
    | ok d e' =>
      rw [hf] at q
      cases d with
      | str x =>
        refine .inl (.inl ⟨lk, L, e, st, ws, gd, ?_⟩)
        rw [hf]
        intro v H1 g1
        have hv : v = .str x := by
          obtain ⟨S, G, A, B, g⟩ := g1
          cases hs : g.stk with
          | cons r _ => cases r; rfl
        exact ⟨x, hv, q _ H1 [] L .refl g1.drop itD_str⟩
      | lst f' ds =>
        refine .inl (.inr ⟨lk, L, e, st, ws, gd, ?_⟩)
        unfold M.bind
        rw [hf]; exact q
      | dk f' ks =>
        refine .inr ⟨lk, L, e, st, ws, gd, ?_⟩
        unfold M.bind
        rw [hf]; exact q
      | _ => exact False.elim q
def isDkB : D → Bool | .dk _ _ => true | _ => false
/-- .. where it stands: a dict's keys, without what it holds -/
def itP (io : Bool) (w : M D) (fp : M (Nat × Pth)) (v : M D) : M (List D) := fun e => match w e with
  | .ok (.dk _ _) _ => keysP io fp e
  | _ => (v.bind (itL io)) e
theorem pi_place {tg : Expr} {io : Bool} {w : M D} (hio : io = false → p.O = []) (hp : PE X a (tP X p W fp)) (ha : PE X a (tV X p W f)) : PI X tg a (tI X p W (itP io w fp f)) :=
  PImono (PI.or (pi_seqM hio ha) (pi_keysP hio hp)) fun σ H R q => by
    obtain ⟨lk, L, e, st, ws, gd, q⟩ := q
    unfold itP at q
    split at q
    · exact .inr ⟨lk, L, e, st, ws, gd, q⟩
    · exact .inl ⟨lk, L, e, st, ws, gd, q⟩
end
/-! ### what is compiled -/
/-- a piece of the text, names resolved -/
inductive CE where
  | bad | nm (i : Nat) | np (i : Nat) | ns (i : Nat) | cN | cB (b : Bool) | cI (i : Int) | cT (x : Str) | ty (t : String) | fnv (x : Str)
  | bin (op : Operator) (a b : CE) | cmp (op : CmpOp) (a b : CE) | chn (o1 o2 : CmpOp) (a b c : CE)
  | nt (a : CE) | an (a b : CE) | ro (a b : CE) | ifx (t a b : CE) | neg (a : CE)
  | call (f : Nat) (args : CE) | calh (f : Nat) (args : CE) | exv (c : Str) (flds : List Str) (args : CE) | blt (id : Nat) (args : CE) | isi (args : CE) | mth (i : Nat) (o args : CE) | mk (i : Nat) (args : CE) | mkh (i : Nat) (args : CE)
  | met (id : Nat) (o a : CE) | lmt (id : Nat) (o args : CE) | sdf (o k x : CE) | gt1 (o k : CE) | gt2 (o k x : CE)
  | lst (a : CE) | tup (a : CE) | sli (a lo hi : CE) | stp (j : Int) (a : CE) | sub (a b : CE) | fld (n : Str) (a : CE)
  | lc (own : List Nat) (tg it ts el : CE) | lcu (own : List Nat) (i : Nat) (tg ts el : CE) | itm (a : CE) | dnew | dnwt | disp (prs : CE)
  | nil | cons (a r : CE) | pr (k v r : CE) | on | os (a : CE) | yes
  | rng1 (a : CE) | rng2 (a b : CE) | enu (a : CE) | zp (a b : CE)
  | tgn (i : Nat) | tgt (a : CE) | wh (t b : CE)
  | nx | ex (a : CE) | ret (a : CE) | retN | brk | cnt | ite (t a b : CE) | set (i : Nat) (a : CE) | fr (tg it b : CE) | sq (a b : CE)
  | sett (tg a : CE) | aug (i : Nat) (a : CE) | stf (n : Str) (v o : CE)
  | sto (v o k : CE) | rai (c : Str) (flds : List Str) (args : CE) | rait (c : Str) (a : CE) | tryk (tab : List (Str × Bool)) (i : Nat) (b h : CE) | tryo (tab : List (Str × Bool)) (b h o : CE)
  deriving DecidableEq, Repr
structure Bun where
  W : M D := .bad
  V : M D := .bad
  T : M Bool := .bad
  I : M (List D) := .bad
  V0 : M D := .bad
  H : M D := .bad
  PL : M (Nat × Pth) := .bad
  PL0 : M (Nat × Pth) := .bad
  AW : M (List D) := .bad
  AV : M (List D) := .bad
  AH : M (List D) := .bad
  P : List (M D × M D) := []
  O : M (Option Int) := .bad
  G : Option (D → Env → Option Env) := none
  GL : Option (List (D → Env → Option Env)) := none
  S : M Fw := .bad
structure Cf where
  N : List Str
  /-- places in statements with comprehensions -/
  nl : List Nat
  fn : List Str := []
  cs : List (Str × CE) := []
  bl : List Str := []
  /-- classes, defs as values -/
  cl : List Str := []
  /-- slots whose {} has tuples for keys -/
  dts : List Nat := []
  /-- slots that are shared where they are read strongly -/
  shs : List Nat := []
  /-- defs whose arguments are kept -/
  hs : List Str := []
  /-- own exceptions, their fields -/
  exo : List (Str × List Str) := []
  /-- own exceptions without fields -/
  exp : List Str := []
  /-- what an except clause takes -/
  ext : List (Str × List (Str × Bool)) := []
  /-- methods, of which class -/
  ms : List (Str × Str) := []
  /-- classes that are made; those that keep what they are made of -/
  mkc : List Str := []
  mkh : List Str := []
  /-- slots over whose lists comprehensions run without freezing them -/
  lcu : List Nat := []
structure Bk where
  sc : Scope
  fn : Str → Bool
  nl : List Nat
  hot : Bool := false
def ixOf : List Str → Str → Option Nat
  | [], _ => none
  | y :: r, x => if y = x then some 0 else (ixOf r x).map (· + 1)
theorem ixOf_get : ∀ {N : List Str} {x : Str} {i : Nat}, ixOf N x = some i → N[i]? = some x
  | [], _, _, h => by cases h
  | y :: r, x, i, h => by
    unfold ixOf at h
    by_cases e : y = x
    · rw [if_pos e] at h; cases h; subst e; rfl
    · rw [if_neg e] at h
      cases q : ixOf r x with
      | none => rw [q] at h; cases h
      | some j =>
        rw [q] at h
        cases h
        have z : r[j]? = some x := ixOf_get q
        exact z
def visB (sc : Scope) (x : Str) : Bool := match sc.names.lookup x with
  | some .local => true | some .cell => true | some .free => true | _ => false
def locB (bk : Bk) (x : Str) : Bool := match bk.sc.names.lookup x with
  | some .local => true | some .cell => bk.fn x | _ => false
def glB (sc : Scope) (x : Str) : Bool := match sc.names.lookup x with
  | some .globalImplicit => true | _ => false
def nmB (x : Str) : Bool := !(x == ("__debug__" : Str)) && !(x == ("__classdict__" : Str)) && !(decide (x = "__name__"))
theorem visB_of {sc : Scope} {x : Str} (h : visB sc x = true) : Vis sc x := by
  unfold visB at h
  unfold L2.Vis
  split at h <;> first | (rename_i q; simp [q]) | cases h
theorem locB_of {bk : Bk} {x : Str} (h : locB bk x = true) : L2.Loc bk.sc x ∧ (bk.fn x = true ∨ bk.sc.names.lookup x = some .local) := by
  unfold locB at h
  unfold L2.Loc
  split at h
  · rename_i q; exact ⟨.inl q, .inr q⟩
  · rename_i q; exact ⟨.inr q, .inl h⟩
  · cases h
theorem nmB_of {x : Str} (h : nmB x = true) : (x == ("__debug__" : Str)) = false ∧ (x == ("__classdict__" : Str)) = false ∧ x ≠ "__name__" := by
  unfold nmB at h
  simp only [Bool.and_eq_true, Bool.not_eq_true', decide_eq_false_iff_not] at h
  exact ⟨h.1.1, h.1.2, h.2⟩
def noStar : Expr → Bool
  | .Starred _ _ => false
  | _ => true
theorem noStar_of {a : Expr} (h : noStar a = true) (es : List Expr) (env : PySem.Env) : starEach (a :: es) env = (false, eval a env) :: starEach es env := by
  cases a <;> first | rfl | cases h
theorem noStar_any : ∀ {es : List Expr} (h : es.all noStar = true) (pos : Pos) (env : PySem.Env), (backTo pos (starEach es env)).any (·.1) = false
  | [], _, _, _ => rfl
  | a :: es, h, pos, env => by
    rw [List.all_cons, Bool.and_eq_true] at h
    rw [noStar_of h.1]
    exact noStar_any h.2 pos env
theorem noStar_one {a : Expr} (h : noStar a = true) (env : PySem.Env) : starEach [a] env = [(false, eval a env)] := noStar_of h [] env
def plainIx : Expr → Bool
  | .Slice _ _ none _ => false
  | _ => true
theorem plainIx_of {b : Expr} (h : plainIx b = true) : PlainIx b := fun o i => by
  cases b <;> first | rfl | skip
  rename_i lo hi stp ps
  cases stp
  · cases h
  · rfl
end DG

set_option Elab.async false
set_option linter.all false
set_option maxHeartbeats 4000000
/-! DJb: from the text to compiled pieces; what these do. -/
namespace DG
open PySem PySem.Spec PyProof.Rows L2
set_option autoImplicit false
def opD : Operator → D → D → Option Nw
  | .Add => addD
  | .Sub => subD
  | .Mult => mulE
  | .FloorDiv => fdivD
  | .Mod => modD
  | _ => fun _ _ => none
def cmpD : CmpOp → D → D → Option Nw
  | .Eq => eqD
  | .NotEq => neD
  | .Lt => ltD
  | .LtE => leD
  | .Gt => gtD
  | .GtE => geD
  | .Is => isD
  | .IsNot => isnD
  | .In => inD
  | .NotIn => ninD
structure Sm where
  io : Bool := false
  fs : List (Nat × (List D → FRes)) := []
  tb : Tab := []
  xc : List Str := []
  xt : FTab := []
  ms : List (Str × Str × Nat × (List D → FRes)) := []
  mkc : List (Str × Nat × (List D → FResI)) := []
  it : FTab := []
/-! ### what a piece does -/
def mkV (io : Bool) (v : M D) : Bun := { W := v.bind fun d => .ret (lend d), V := v, T := (v.bind fun d => .ret (lend d)).bind truM, I := v.bind (itL io), V0 := v, H := v }
def mkW (io : Bool) (w : M D) : Bun := { W := w, V := w.bind immM, T := w.bind truM, I := (w.bind immM).bind (itL io), V0 := w.bind immM, H := w.bind immM }
def mkT (io : Bool) (v : M D) (t : M Bool) : Bun := { W := v.bind fun d => .ret (lend d), V := v, T := t, I := v.bind (itL io), V0 := v, H := v }
def mkP (io : Bool) (w h : M D) (pl : M (Nat × Pth)) : Bun := { W := w, V := vhM w h, T := w.bind truM, I := itP io w pl (vhM w h), V0 := vhM w h, H := vhM w h, PL := pl, PL0 := pl }
def slotP1 (i : Nat) : M (Nat × Pth) := slotP [i] i
def bltM (id : Nat) (r : M (List D)) : M D := match id with
  | 0 => callM lenE r
  | 2 => callM minE r
  | 3 => callM maxE r
  | 4 => callM allD r
  | 5 => callM anyD r
  | 6 => callM absD r
  | 7 => callM strD r
  | 8 => callM listD r
  | 9 => callM intD r
  | 10 => callM sorD r
  | 11 => callM tupD r
  | _ => r.bind fun _ => .bad
def metM (id : Nat) (o a : M D) : M D := match id with
  | 0 => smM1 joinD o a
  | 1 => smM1 splitD o a
  | 2 => smM1 startsD o a
  | _ => o.bind fun x => if isStr x then a.bind fun _ => .bad else .bad
def lmOp : Nat → OpL
  | 0 => appO
  | 1 => popO
  | 2 => clearO
  | 3 => insO
  | _ => fun _ _ => none
def Sm.fn (s : Sm) (f : Nat) (r : M (List D)) : M D := match s.fs[f]? with
  | some (n, F) => callF n F r
  | none => r.bind fun _ => .bad
def Sm.fnH (s : Sm) (f : Nat) (r : M (List D)) : M D := match s.fs[f]? with
  | some (n, F) => callH n F r
  | none => r.bind fun _ => .bad
def Sm.mth (s : Sm) (i : Nat) (o : M D) (r : M (List D)) : M D := match s.ms[i]? with
  | some (m, c, n, F) => methM m c n F o r
  | none => r.bind fun _ => .bad
def Sm.mkD (s : Sm) (i : Nat) (r : M (List D)) : M D := match s.mkc[i]? with
  | some (c, n, F) => mkM c n F r
  | none => r.bind fun _ => .bad
def Sm.mkK (s : Sm) (i : Nat) (r : M (List D)) : M D := match s.mkc[i]? with
  | some (c, n, F) => mkH c n F r
  | none => r.bind fun _ => .bad
def lcUG (own : List Nat) (i : Nat) (g : Option (D → Env → Option Env)) (t : M Bool) (v : M D) : M D := match g with
  | some ft => lcU own i ft t v
  | none => .bad
def settG (g : Option (List (D → Env → Option Env))) (v : M D) : M Fw := match g with
  | some gs => settM v gs
  | none => .bad
def lcG (own : List Nat) (g : Option (D → Env → Option Env)) (it : M (List D)) (t : M Bool) (v : M D) : M D := match g with
  | some ft => lcM own it ft t v
  | none => .bad
def frG (g : Option (D → Env → Option Env)) (it : M (List D)) (b : M Fw) : M Fw := match g with
  | some ft => it.bind (loopM ft b)
  | none => .bad
def wFuel : Nat := 1000000
def glC (a : Option (D → Env → Option Env)) (b : Option (List (D → Env → Option Env))) : Option (List (D → Env → Option Env)) := match a, b with
  | some f, some fs => some (f :: fs)
  | _, _ => none
def setM (io : Bool) (i : Nat) (v : M D) : M Fw := v.bind fun d => (liftT (putE io i) d).bind fun _ => .ret .next
def iteM (t : M Bool) (a b : M Fw) : M Fw := t.bind fun k => if k then a else b
def sem (s : Sm) : CE → Bun
  | .bad => {}
  | .nm i => { W := slotM i, V := slotC i, T := (slotM i).bind truM, I := (slotS s.io i).bind (itL s.io), V0 := slotC i, H := slotS s.io i }
  | .np i => { W := slotM i, V := slotC i, T := (slotM i).bind truM, I := itP s.io (slotM i) (slotP1 i) (slotS s.io i), V0 := slotC i, H := slotS s.io i, PL := slotP1 i, PL0 := slotP1 i }
  | .ns i => { W := slotM i, V := vhM (slotM i) (slotS s.io i), T := (slotM i).bind truM, I := itP s.io (slotM i) (slotP1 i) (slotS s.io i), V0 := vhM (slotM i) (slotS s.io i), H := slotS s.io i, PL := slotP1 i, PL0 := slotP1 i }
  | .cN => mkW s.io (.ret .non)
  | .cB b => mkW s.io (.ret (.bl b))
  | .cI i => mkW s.io (.ret (.int i))
  | .cT x => mkW s.io (.ret (.str x))
  | .ty t => mkW s.io (.ret (.ty t))
  | .fnv x => mkW s.io (.ret (.fn x))
  | .bin op a b => mkV s.io (binN (opD op) (sem s a).W (sem s b).W)
  | .cmp op a b => mkT s.io (binN (cmpD op) (sem s a).W (sem s b).W) ((binN (cmpD op) (sem s a).W (sem s b).W).bind blM)
  | .chn o1 o2 a b c => mkT s.io (chainM (cmpD o1) (cmpD o2) (sem s a).W (sem s b).W (sem s c).W) ((chainM (cmpD o1) (cmpD o2) (sem s a).W (sem s b).W (sem s c).W).bind blM)
  | .nt a => mkT s.io (notV (sem s a).W) ((sem s a).T.bind fun b => .ret (!b))
  | .an a b => mkT s.io (andV (sem s a).W (sem s b).V) (andT (sem s a).T (sem s b).T)
  | .ro a b => mkT s.io (orV (sem s a).W (sem s b).V) (orT (sem s a).T (sem s b).T)
  | .ifx t a b => { W := ifV (sem s t).T (sem s a).W (sem s b).W, V := ifV (sem s t).T (sem s a).V (sem s b).V, I := (ifV (sem s t).T (sem s a).V (sem s b).V).bind (itL s.io), V0 := ifV (sem s t).T (sem s a).V (sem s b).V, H := ifV (sem s t).T (sem s a).H (sem s b).H }
  | .neg a => mkV s.io ((sem s a).W.bind fun d => newM (negD d))
  | .call f args => mkV s.io (s.fn f (sem s args).AW)
  | .calh f args => mkV s.io (s.fnH f (sem s args).AH)
  | .exv c flds args => mkV s.io (exvM c flds (sem s args).AV)
  | .blt id args => mkV s.io (bltM id (sem s args).AW)
  | .mth i o args => mkV s.io (s.mth i (sem s o).W (sem s args).AW)
  | .mk i args => mkV s.io (s.mkD i (sem s args).AW)
  | .mkh i args => mkV s.io (s.mkK i (sem s args).AH)
  | .itm a => { I := (sem s a).V.bind (itemsV s.io) }
  | .lcu own i tg ts el => mkV s.io (lcUG own i (sem s tg).G (sem s ts).T (sem s el).V)
  | .isi args => mkV s.io (callM (isiT s.tb s.xc) (sem s args).AW)
  | .met id o a => mkV s.io (metM id (sem s o).W (sem s a).W)
  | .lmt id o args => { V0 := lmM (lmOp id) (sem s o).PL0 (sem s args).AV }
  | .sdf o k x => { PL0 := sdM (sem s o).PL (sem s k).W (sem s x).V }
  | .gt1 o k => mkW s.io (get1M (sem s o).W (sem s k).W)
  | .gt2 o k x => mkP s.io (get2M (sem s o).W (sem s k).W (sem s x).W) (get2H s.io (sem s o).PL (sem s k).W (sem s x).V) .bad
  | .lst a => mkV s.io (lstM (sem s a).AV)
  | .tup a => mkV s.io (tupM (sem s a).AV)
  | .sli a lo hi => mkV s.io (sliM (sem s a).W (sem s lo).O (sem s hi).O)
  | .stp j a => mkV s.io ((sem s a).W.bind fun d => newM (stpD j d))
  | .sub a b => mkP s.io (subM (sem s a).W (sem s b).W) (shM s.io (subPM (sem s a).PL (sem s b).W)) (subPM (sem s a).PL (sem s b).W)
  | .fld n a => mkP s.io (fldM s.xt s.it n (sem s a).W) (shM s.io (fldPM s.xt s.it n (sem s a).PL)) (fldPM s.xt s.it n (sem s a).PL)
  | .lc own tg it ts el => mkV s.io (lcG own (sem s tg).G (sem s it).I (sem s ts).T (sem s el).V)
  | .dnew => mkV s.io newDK
  | .dnwt => mkV s.io newDT
  | .disp prs => mkV s.io (dispM (sem s prs).P)
  | .nil => { AW := .ret [], AV := .ret [], AH := .ret [], GL := some [] }
  | .cons a r => { AW := consM (sem s a).W (sem s r).AW, AV := consM (sem s a).V (sem s r).AV, AH := consM (sem s a).H (sem s r).AH, GL := glC (sem s a).G (sem s r).GL }
  | .pr k v r => { P := ((sem s k).W, (sem s v).V) :: (sem s r).P }
  | .on => { O := .ret none }
  | .os a => { O := (sem s a).W.bind intM }
  | .yes => { T := .ret true }
  | .rng1 a => { I := (sem s a).W.bind rng1 }
  | .rng2 a b => { I := (sem s a).W.bind fun x => (sem s b).W.bind fun y => rng2 x y }
  | .enu a => { I := (sem s a).H.bind (enumL s.io) }
  | .zp a b => { I := (sem s a).H.bind fun x => (sem s b).H.bind fun y => zipL s.io x y }
  | .tgn i => { G := some (putE s.io i) }
  | .tgt a => { G := (sem s a).GL.map tupG }
  | .wh t b => { S := whileM (sem s t).T (sem s b).S wFuel }
  | .nx => { S := .ret .next }
  | .ex a => { S := (sem s a).V0.bind fun _ => .ret .next }
  | .ret a => { S := (sem s a).V.bind fun d => .ret (.ret d) }
  | .retN => { S := .ret (.ret .non) }
  | .brk => { S := .ret .brk }
  | .cnt => { S := .ret .cont }
  | .ite t a b => { S := iteM (sem s t).T (sem s a).S (sem s b).S }
  | .set i a => { S := setM s.io i (sem s a).V0 }
  | .fr tg it b => { S := frG (sem s tg).G (sem s it).I (sem s b).S }
  | .sq a b => { S := seqM (sem s a).S (sem s b).S }
  | .sett tg a => { S := settG (sem s tg).GL (sem s a).V0 }
  | .aug i a => { S := augM s.io i (sem s a).W }
  | .stf n v o => { S := stfM s.it n (sem s v).V0 (sem s o).PL0 }
  | .sto v o k => { S := stoM (sem s v).V0 (sem s o).PL0 (sem s k).W }
  | .rai c flds args => { S := raiM c flds (sem s args).AV }
  | .rait c a => { S := raiT c (sem s a).W }
  | .tryk tab i b h => { S := tryK (sem s b).S tab i (sem s h).S }
  | .tryo tab b h o => { S := tryO (sem s b).S tab (sem s h).S (sem s o).S }
/-! ### from the text -/
def baseOk : Expr → Bool
  | .Call (.Name _ _) [] [] _ => false
  | _ => true
theorem baseOk_of {o : Expr} (h : baseOk o = true) (m : Str) (env : PySem.Env) : attributeBase o m env (eval o env) = eval o env := by
  unfold attributeBase
  split
  · rename_i id p pos
    simp [baseOk] at h
  · rfl
def bltIs (cf : Cf) (bk : Bk) (x : Str) : Bool := glB bk.sc x && decide (x ∈ cf.bl)
def isSet : Expr → Bool
  | .Set _ _ _ => true
  | _ => false
def isComp : Expr → Bool
  | .ListComp _ _ _ _ => true | .SetComp _ _ _ _ => true | .DictComp _ _ _ _ _ => true
  | _ => false
def relS (scope sc : Scope) : Scope := { scope with names := scope.names.map fun (n, k) => if (k == .free && sc.kind == .function && sc.names.lookup n == some .cell) then (n, .cell) else (n, k) }
def inBk (scope : Scope) (bk : Bk) : Bk := ⟨relS scope bk.sc, fun x => scope.names.lookup x == some .cell, bk.nl, bk.hot⟩
def ownOf (N : List Str) (scope : Scope) : List (Str × Nat) := scope.names.filterMap fun (x, k) => if (k == .local || k == .cell) then (ixOf N x).map (fun i => (x, i)) else none
def swapB (bk : Bk) (x : Str) (ps vs : Pos) (scope : Scope) : Bool := (match bk.sc.kind with | .function => true | _ => false) && (match bk.sc.names.lookup x with | some .local => true | _ => false) && (ps.line == vs.line) && !(scope.names.any fun (n, k) => n == x && (k == .local || k == .cell))
def isCst : CE → Bool
  | .cN => true | .cB _ => true | .cI _ => true | .cT _ => true
  | _ => false
def tyC (x : Str) : CE := if x = "int" then .ty "int" else if x = "str" then .ty "str" else if x = "list" then .ty "list" else if x = "tuple" then .ty "tuple" else if x = "dict" then .ty "dict" else if x = "bool" then .ty "bool" else if x = "ValueError" then .ty "ValueError" else .bad
def bltC (x : Str) (r : CE) : CE := if x = "len" then .blt 0 r else if x = "isinstance" then .isi r else if x = "min" then .blt 2 r else if x = "max" then .blt 3 r else if x = "all" then .blt 4 r else
  if x = "any" then .blt 5 r else if x = "abs" then .blt 6 r else if x = "str" then .blt 7 r else if x = "list" then .blt 8 r else if x = "int" then .blt 9 r else if x = "sorted" then .blt 10 r else if x = "tuple" then .blt 11 r else .bad
def hotOk (x : Str) : Bool := decide (x ∈ [("isinstance" : Str), "len", "str", "int"])
def cName (cf : Cf) (bk : Bk) (x : Str) : CE := if nmB x = true then
    (if visB bk.sc x = true then (match ixOf cf.N x with
      | some i => if i ∈ bk.nl then (if i ∈ cf.shs then .ns i else .np i) else .nm i
      | none => .bad)
    else if glB bk.sc x = true then (match cf.cs.lookup x with
      | some c => if isCst c = true then c else .bad
      | none => if x ∈ cf.bl then tyC x else if x ∈ cf.cl then .fnv x else .bad) else .bad) else .bad
def cCst (c : Const) : CE := match c with
  | .none => .cN
  | .bool k => .cB k
  | .int i => .cI i
  | .str x => .cT x
  | _ => .bad
def cA (f : Expr → CE) : List Expr → CE
  | [] => .nil
  | a :: es => .cons (f a) (cA f es)
def cBool (g : CE → CE → CE) (f : Expr → CE) : List Expr → CE
  | [] => .bad
  | a :: r => match r with
    | [] => f a
    | _ :: _ => g (f a) (cBool g f r)
def cO (f : Expr → CE) : Option Expr → CE
  | none => .on
  | some e => .os (f e)
def cPrs (f : Expr → CE) : List (Option Expr) → List Expr → Option CE
  | [], [] => some .nil
  | some k :: ks, x :: vs => (cPrs f ks vs).map fun r => .pr (f k) (f x) r
  | _, _ => none
def isTup : Expr → Bool
  | .Tuple _ _ _ => true
  | _ => false
def cIt (cf : Cf) (f : Expr → CE) (bk : Bk) (tg e : Expr) : CE := match e with
  | .Call (.Attribute o m apos) [] [] pos => if m = "items" ∧ baseOk o = true ∧ (apos.endLine == pos.line) = true ∧ isTup tg = true then .itm (f o) else f e
  | .Call (.Name x _) [a] [] _ => if x = "range" ∧ bltIs cf bk x = true ∧ noStar a = true then .rng1 (f a) else if x = "enumerate" ∧ bltIs cf bk x = true ∧ noStar a = true ∧ isTup tg = true then .enu (f a) else f e
  | .Call (.Name x _) [a, b] [] _ => if x = "range" ∧ bltIs cf bk x = true ∧ noStar a = true ∧ noStar b = true then .rng2 (f a) (f b) else
      if x = "zip" ∧ bltIs cf bk x = true ∧ noStar a = true ∧ noStar b = true ∧ isTup tg = true then .zp (f a) (f b) else f e
  | e => f e
def lcuOf (cf : Cf) (bk : Bk) (e : Expr) : Option Nat := match e with
  | .Name x _ => if nmB x = true ∧ visB bk.sc x = true then (match ixOf cf.N x with
    | some i => if i ∈ cf.lcu then some i else none
    | none => none) else none
  | _ => none
/-- a target: of a loop (own none), of a comprehension -/
def cTg1 (cf : Cf) (bk : Bk) (own : Option (List Nat)) (e : Expr) : CE := match e with
  | .Name x _ => if locB bk x = true then (match ixOf cf.N x with
      | some i => if (own = none ∨ (i ∉ bk.nl ∧ i ∈ own.getD [])) then .tgn i else .bad
      | none => .bad) else .bad
  | _ => .bad
def cTg (cf : Cf) (bk : Bk) (own : Option (List Nat)) (e : Expr) : CE := match e with
  | .Tuple es _ _ => if bk.hot = false then .tgt (cA (cTg1 cf bk own) es) else .bad
  | e => cTg1 cf bk own e
def cLc (cf : Cf) (f : Bk → Expr → CE) (bk : Bk) (elt tg iter : Expr) (ifs : List Expr) (scope : Scope) : CE :=
  if bk.hot = false ∧ blkC cf.N bk.sc scope (ownOf cf.N scope) = true ∧ ((ownOf cf.N scope).map (·.2)).all (fun i => decide (i ∉ bk.nl)) = true ∧ isSet iter = false then
    (match lcuOf cf bk iter with
    | some i => .lcu ((ownOf cf.N scope).map (·.2)) i (cTg cf (inBk scope bk) (some ((ownOf cf.N scope).map (·.2))) tg) (match ifs with
      | [] => .yes
      | [c] => f (inBk scope bk) c
      | _ => .bad) (f (inBk scope bk) elt)
    | none => .lc ((ownOf cf.N scope).map (·.2)) (cTg cf (inBk scope bk) (some ((ownOf cf.N scope).map (·.2))) tg) (cIt cf (f bk) bk tg iter) (match ifs with
      | [] => .yes
      | [c] => f (inBk scope bk) c
      | _ => .bad) (f (inBk scope bk) elt))
  else .bad
def fewA (args : List Expr) : Bool := decide (args.length < 29)
def cMeth0 (f : Expr → CE) (bk : Bk) (m : Str) (o : Expr) (args : List Expr) : CE := match args with
  | [] => if m = "pop" then .lmt 1 (f o) .nil else if m = "clear" then .lmt 2 (f o) .nil else .bad
  | [a] => if m = "join" then .met 0 (f o) (f a) else if m = "split" then .met 1 (f o) (f a) else if m = "startswith" then .met 2 (f o) (f a) else if m = "append" then .lmt 0 (f o) (.cons (f a) .nil) else if m = "get" then .gt1 (f o) (f a) else .bad
  | [a, b] => if m = "insert" then .lmt 3 (f o) (.cons (f a) (.cons (f b) .nil)) else if m = "setdefault" then .sdf (f o) (f a) (f b) else if m = "get" then .gt2 (f o) (f a) (f b) else .bad
  | _ => .bad
def cMeth (cf : Cf) (f : Expr → CE) (bk : Bk) (m : Str) (o : Expr) (args : List Expr) : CE := match ixOf (cf.ms.map (·.1)) m with
  | some i => if bk.hot = false ∧ fewA args = true then .mth i (f o) (cA f args) else .bad
  | none => cMeth0 f bk m o args
def cCall (cf : Cf) (f : Bk → Expr → CE) (bk : Bk) (g : Expr) (args : List Expr) (kws : List Keyword) (pos : Pos) : CE := match g, kws with
  | .Name x _, [] => if nmB x = true ∧ glB bk.sc x = true ∧ args.all noStar = true then (match ixOf cf.fn x with
      | some i => if bk.hot = false then (if x ∈ cf.hs ∧ args ≠ [] then .calh i (cA (f bk) args) else .call i (cA (f bk) args)) else .bad
      | none => match cf.exo.lookup x with
        | some flds => if bk.hot = false ∧ args ≠ [] ∧ flds.length ≤ 1000 then .exv x flds (cA (f bk) args) else .bad
        | none => match ixOf cf.mkc x with
          | some i => if bk.hot = false then (if x ∈ cf.mkh then (if args = [] then .bad else .mkh i (cA (f bk) args)) else .mk i (cA (f bk) args)) else .bad
          | none => if x ∈ cf.bl ∧ args ≠ [] ∧ (bk.hot = false ∨ hotOk x = true) then bltC x (cA (f bk) args) else .bad) else .bad
  | .Attribute o m apos, [] => if baseOk o = true ∧ (apos.endLine == pos.line) = true ∧ args.all noStar = true then cMeth cf (f bk) bk m o args else .bad
  | _, _ => .bad
def stpOfE : Expr → Option Int
  | .UnaryOp .USub (.Constant (.int 1) _ _) _ => some (-1)
  | .Constant (.int 2) _ _ => some 2
  | _ => none
def cE (cf : Cf) : Nat → Bk → Expr → CE
  | 0, _, _ => .bad
  | n + 1, bk, e => match e with
    | .Name x _ => cName cf bk x
    | .Constant k _ _ => cCst k
    | .IfExp c a b _ => .ifx (cE cf n bk c) (cE cf n bk a) (cE cf n bk b)
    | .Subscript a (.Slice lo hi none _) _ => .sli (cE cf n bk a) (cO (cE cf n bk) lo) (cO (cE cf n bk) hi)
    | .Subscript a (.Slice none none (some st) _) _ => (match stpOfE st with
      | some j => .stp j (cE cf n bk a)
      | none => .bad)
    | .Subscript a i _ => if plainIx i = true then .sub (cE cf n bk a) (cE cf n bk i) else .bad
    | .Attribute a m _ => if baseOk a = true then .fld m (cE cf n bk a) else .bad
    | .BinOp a op b _ => .bin op (cE cf n bk a) (cE cf n bk b)
    | .UnaryOp .Not a _ => .nt (cE cf n bk a)
    | .UnaryOp .USub a _ => .neg (cE cf n bk a)
    | .BoolOp op vs _ => if 2 ≤ vs.length then (match op with
        | .And => cBool .an (cE cf n bk) vs
        | .Or => cBool .ro (cE cf n bk) vs) else .bad
    | .Compare a [op] [b] _ => if behindInMarks op b = false then .cmp op (cE cf n bk a) (cE cf n bk b) else .bad
    | .Compare a [op, op'] [b, c] _ => if lastMarks [op, op'] [b, c] = false then .chn op op' (cE cf n bk a) (cE cf n bk b) (cE cf n bk c) else .bad
    | .Call f args kws pos => cCall cf (cE cf n) bk f args kws pos
    | .List es _ => if es.all noStar = true then .lst (cA (cE cf n bk) es) else .bad
    | .Tuple es _ _ => if es.all noStar = true then .tup (cA (cE cf n bk) es) else .bad
    | .ListComp elt [⟨tg, iter, ifs, as⟩] scope _ => if as = 0 then cLc cf (cE cf n) bk elt tg iter ifs scope else .bad
    | .Dict ks vs _ => if ks = [] ∧ vs = [] then .dnew else if ks.length = vs.length ∧ ks.length ≤ 15 then (match cPrs (cE cf n bk) ks vs with
        | some prs => .disp prs
        | none => .bad) else .bad
    | _ => .bad
/-- no piece of it is left out -/
def CE.ok : CE → Bool
  | .bad => false
  | .bin _ a b => a.ok && b.ok | .cmp _ a b => a.ok && b.ok | .chn _ _ a b c => a.ok && b.ok && c.ok
  | .nt a => a.ok | .an a b => a.ok && b.ok | .ro a b => a.ok && b.ok | .ifx t a b => t.ok && a.ok && b.ok | .neg a => a.ok
  | .call _ a => a.ok | .calh _ a => a.ok | .exv _ _ a => a.ok | .blt _ a => a.ok | .isi a => a.ok
  | .mth _ o a => o.ok && a.ok | .mk _ a => a.ok | .mkh _ a => a.ok | .itm a => a.ok | .lcu _ _ t s e => t.ok && s.ok && e.ok
  | .met _ o a => o.ok && a.ok | .lmt _ o a => o.ok && a.ok | .sdf o k x => o.ok && k.ok && x.ok | .gt1 o k => o.ok && k.ok | .gt2 o k x => o.ok && k.ok && x.ok
  | .lst a => a.ok | .tup a => a.ok | .sli a l h => a.ok && l.ok && h.ok | .stp _ a => a.ok | .sub a b => a.ok && b.ok | .fld _ a => a.ok
  | .lc _ t i s e => t.ok && i.ok && s.ok && e.ok | .disp a => a.ok
  | .cons a r => a.ok && r.ok | .pr k v r => k.ok && v.ok && r.ok | .os a => a.ok
  | .rng1 a => a.ok | .rng2 a b => a.ok && b.ok | .enu a => a.ok | .zp a b => a.ok && b.ok | .tgt a => a.ok
  | .sto v o k => v.ok && o.ok && k.ok
  | .stf _ v o => v.ok && o.ok | .sett t a => t.ok && a.ok | .aug _ a => a.ok
  | _ => true
def allNl (cf : Cf) : List Nat := List.range (cf.N.length + 1)
/-- a statement's own piece: with all slots as places, if that goes -/
def pick (cf : Cf) (bk : Bk) (g : Bk → CE) : List Nat := if (g { bk with nl := allNl cf }).ok = true then allNl cf else cf.nl
def cPick (cf : Cf) (bk : Bk) (g : Bk → CE) : CE := g { bk with nl := pick cf bk g }
def cSet (cf : Cf) (n : Nat) (x : Str) (i : Nat) (ps : Pos) (e : Expr) (bk : Bk) : CE := match e with
  | .ListComp elt [⟨tg, iter, ifs, as⟩] scope cp => if as = 0 ∧ swapB bk x ps cp scope = true then cLc cf (cE cf n) bk elt tg iter ifs scope else .bad
  | .Dict [] [] _ => if i ∈ cf.dts then .dnwt else .dnew
  | e => if isComp e = false then cE cf n bk e else .bad
def cRai (cf : Cf) (n : Nat) (x : Str) (args : List Expr) (bk : Bk) : CE := match cf.exo.lookup x with
  | some flds => if bk.hot = false ∧ flds ≠ [] ∧ flds.length ≤ 1000 ∧ args ≠ [] then .rai x flds (cA (cE cf n bk) args) else .bad
  | none => match args with
    | [a] => if bk.hot = false ∧ x ∈ cf.exp then .rait x (cE cf n bk a) else .bad
    | _ => .bad
/-- a piece for a loop's head -/
def cFrH (cf : Cf) (n : Nat) (tg iter : Expr) (bk : Bk) : CE := cIt cf (cE cf n bk) bk tg iter
def cStfH (cf : Cf) (n : Nat) (v o : Expr) (m : Str) (bk : Bk) : CE := .stf m (cE cf n bk v) (cE cf n bk o)
def cSettH (cf : Cf) (n : Nat) (es : List Expr) (v : Expr) (bk : Bk) : CE := .sett (cA (cTg1 cf bk none) es) (cE cf n bk v)
def cAugH (cf : Cf) (n : Nat) (i : Nat) (v : Expr) (bk : Bk) : CE := .aug i (cE cf n bk v)
def cStoH (cf : Cf) (n : Nat) (v o i : Expr) (bk : Bk) : CE := .sto (cE cf n bk v) (cE cf n bk o) (cE cf n bk i)
def cSs (cf : Cf) (bk : Bk) : Nat → List Stmt → CE
  | 0, _ => .bad
  | n + 1, ss => match ss with
    | [] => .nx
    | s :: rest =>
      let f : CE := match s with
        | .Expr (.Constant (.str _) _ _) _ => .nx
        | .Expr e _ => if isComp e = false then .ex (cPick cf bk fun bk => cE cf n bk e) else .bad
        | .Return (some e) _ => .ret (cPick cf bk fun bk => cE cf n bk e)
        | .Return none _ => .retN
        | .Pass _ => .nx
        | .Break _ => .brk
        | .Continue _ => .cnt
        | .If c s1 s2 _ => .ite (cPick cf bk fun bk => cE cf n bk c) (cSs cf bk n s1) (cSs cf bk n s2)
        | .Assign [.Name x ps] e _ => if locB bk x = true then (match ixOf cf.N x with
            | some i => .set i (cPick cf bk (cSet cf n x i ps e))
            | none => .bad) else .bad
        | .Assign [.Subscript o i _] v _ => if isComp v = false ∧ plainIx i = true then cPick cf bk (cStoH cf n v o i) else .bad
        | .Assign [.Attribute o m _] v _ => if isComp v = false then cPick cf bk (cStfH cf n v o m) else .bad
        | .Assign [.Tuple es _ _] v _ => if isComp v = false ∧ isTup v = false ∧ bk.hot = false then cPick cf bk (cSettH cf n es v) else .bad
        | .AugAssign (.Name x _) .Add v _ => if locB bk x = true then (match ixOf cf.N x with
            | some i => cPick cf bk (cAugH cf n i v)
            | none => .bad) else .bad
        | .While c body [] _ => if bk.hot = false then .wh (cPick cf bk fun bk => cE cf n bk c) (cSs cf bk n body) else .bad
        | .For tg iter body [] _ => if bk.hot = false ∧ isSet iter = false then .fr (cTg cf bk none tg) (cPick cf bk (cFrH cf n tg iter)) (cSs cf bk n body) else .bad
        | .Raise (some (.Call (.Name x _) args [] _)) none _ => if nmB x = true ∧ glB bk.sc x = true ∧ args.all noStar = true then cPick cf bk (cRai cf n x args) else .bad
        | .Try body [.ExceptHandler (some (.Name x _)) (some y) (b₀ :: suite) _] [] [] _ => if bk.hot = false ∧ nmB x = true ∧ glB bk.sc x = true ∧ bk.sc.names.lookup y = some .local then (match cf.ext.lookup x, ixOf cf.N y with
            | some tab, some i => if i = 0 then .bad else .tryk tab i (cSs cf bk n body) (cSs cf { bk with hot := true } n (b₀ :: suite))
            | _, _ => .bad) else .bad
        | .Try body [.ExceptHandler (some (.Name x _)) none (b₀ :: suite) _] orelse [] _ => if bk.hot = false ∧ nmB x = true ∧ glB bk.sc x = true then (match cf.ext.lookup x with
            | some tab => .tryo tab (cSs cf bk n body) (cSs cf { bk with hot := true } n (b₀ :: suite)) (cSs cf bk n orelse)
            | none => .bad) else .bad
        | _ => .bad
      match rest with
      | [] => f
      | _ :: _ => .sq f (cSs cf bk n rest)
end DG

set_option Elab.async false
set_option linter.all false
set_option maxHeartbeats 4000000
/-! DJc: compiled expressions are right. -/
namespace DG
open PySem PySem.Spec PyProof.Rows L2
set_option autoImplicit false
structure GOk (X : Cx) (k : Nat) (cf : Cf) (s : Sm) : Prop where
  fn : ∀ (i : Nat) (x : Str), cf.fn[i]? = some x → ∃ (n : Nat) (F : List D → FRes), s.fs[i]? = some (n, F) ∧ ∃ fa fd ps, FnOk X.prog X.w X.K X.mg X.base (L2.CX X.prog X.w) k fa fd ps (spF X.K X.mg n F) ∧ X.mg x = some (.ref fa) ∧ PySem.W.keepIn X.K (.ref fa) = true ∧ Binds X.K fd ps []
  cst : ∀ x c, cf.cs.lookup x = some c → ∃ v u, (match c with | .cN => v = V.non | .cB b => v = V.bl b | .cI i => v = V.int i | .cT z => v = V.str z | _ => False) ∧ X.mg x = some u ∧ RelV v u
  blt : ∀ x ∈ cf.bl, X.mg x = none
  cl : ∀ x ∈ cf.cl, ∃ C, X.mg x = some (.ref C)
  exo : ∀ x flds, cf.exo.lookup x = some flds → 2 ≤ k ∧ ExOwn X.K X.mg X.prog X.w X.base x flds
  exp : ∀ x ∈ cf.exp, ExPlain X.K X.mg x
  ext : ∀ x tab, cf.ext.lookup x = some tab → ∃ cv, X.mg x = some cv ∧ ExTab X.K X.mg cv tab
  tb : TbOk X.K X.mg s.tb
  xc : XcOk X.K X.mg s.xc
  ft : FtOk X.K X.mg s.xt s.it
  ms : ∀ (i : Nat) (q : Str × Str), cf.ms[i]? = some q → ∃ (n : Nat) (F : List D → FRes), s.ms[i]? = some (q.1, q.2, n, F) ∧ ∃ C f fd ps, X.mg q.2 = some (.ref C) ∧ Cls X.K C ∧ Meth X.K C q.1 f ∧ FnOk X.prog X.w X.K X.mg X.base (L2.CX X.prog X.w) k f fd ps (spF X.K X.mg n F) ∧ Binds X.K fd ps []
  mkc : ∀ (i : Nat) (x : Str), cf.mkc[i]? = some x → ∃ (n : Nat) (F : List D → FResI), s.mkc[i]? = some (x, n, F) ∧ ∃ k0, k0 + 1 ≤ k ∧ ∃ C f fd ps, Mk X.K C f ∧ FnOk X.prog X.w X.K X.mg X.base (L2.CX X.prog X.w) k0 f fd ps (spI X.K X.mg n F) ∧ X.mg x = some (.ref C) ∧ Binds X.K fd ps []
structure EC (cf : Cf) (s : Sm) (bk : Bk) (X : Cx) (p : Par) (W : WX) : Prop where
  N : X.N = cf.N
  nd : cf.N.Nodup
  nl0 : 0 ∈ bk.nl
  nl : p.nl = bk.nl
  sc : X.env.scope = bk.sc
  fn : X.fn = bk.fn
  calm : bk.hot = false → X.calm = true
  O : s.io = false → p.O = []
  io : s.io = false → p.io = none
  tk : Takes X W
  un : X.A.units + 65 < cLine
  gl : ∃ k, (bk.hot = false → Room k X.A) ∧ GOk X k cf s
theorem EC.gk {cf : Cf} {s : Sm} {bk : Bk} {X : Cx} {p : Par} {W : WX} (h : EC cf s bk X p W) {x : Str} (g : glB bk.sc x = true) : Gl X x := by
  unfold glB at g
  show X.env.scope.names.lookup x = _
  rw [h.sc]
  split at g
  · assumption
  · cases g
theorem EC.w0 {cf : Cf} {s : Sm} {bk : Bk} {X : Cx} {p : Par} {W : WX} (E : EC cf s bk X p W) : EC cf s bk X p W0 := ⟨E.N, E.nd, E.nl0, E.nl, E.sc, E.fn, E.calm, E.O, E.io, fun u s' ⟨a, B, sI, pins, σ, H, cls, d, e, I, nb, up, sky, na, os, ag, w⟩ => w.elim, E.un, E.gl⟩
theorem EC.blk {cf : Cf} {sm : Sm} {bk : Bk} {X : Cx} {p : Par} {W : WX} (E : EC cf sm bk X p W) (hh : bk.hot = false) (scope : Scope) (s : Shared) (H : Hp) (C : Addr) (cl : List (Str × Addr)) (fp : List Addr) : EC cf sm (inBk scope bk) (X.blk s H scope (compEnvC scope cl C X.env) fp) p W0 := by
  refine ⟨E.N, E.nd, E.nl0, E.nl, ?_, rfl, fun _ => E.calm hh, E.O, E.io, fun u s' ⟨a, B, sI, pins, σ, H, cls, d, e, I, nb, up, sky, na, os, ag, w⟩ => w.elim, E.un, ?_⟩
  · show relabel scope X.env = relS scope bk.sc
    unfold relabel relS PySem.Env.kindOf
    rw [E.sc]
  · obtain ⟨k, h1, h2⟩ := E.gl
    exact ⟨k, fun _ => h1 hh, h2.fn, h2.cst, h2.blt, h2.cl, h2.exo, h2.exp, h2.ext, h2.tb, h2.xc, h2.ft, h2.ms, h2.mkc⟩
/-- a compiled expression is right -/
structure BOk (X : Cx) (p : Par) (Wx : WX) (e : Expr) (b : Bun) : Prop where
  W : PE X e (tW X p Wx b.W)
  V : PE X e (tV X p Wx b.V)
  T : PT X e (tT X p Wx b.T)
  I : ∀ tg, PI X tg e (tI X p Wx b.I)
  V0 : PE X e (tV0 X p Wx b.V0)
  PL : PE X e (tP X p Wx b.PL)
  PL0 : PE X e (tP0 X p Wx b.PL0)
  H : PE X e (tV X p Wx b.H)
  PLn : ∀ e q e', b.PL e = .ok q e' → q.1 ∈ p.nl
def EOk (cf : Cf) (s : Sm) (f : Bk → Expr → CE) : Prop := ∀ ⦃bk X p W⦄, EC cf s bk X p W → ∀ e, BOk X p W e (sem s (f bk e))
section
variable {X : Cx} {p : Par} {W : WX} {cf : Cf} {s : Sm} {bk : Bk} {a b c : Expr} {pos : Pos} {f : Bk → Expr → CE}
theorem pe_badW : PE X a (tW X p W .bad) := ⟨fun pins s σ H Q I ⟨_, _, _, _, _, _, q⟩ => False.elim q⟩
theorem pe_badV : PE X a (tV X p W .bad) := ⟨fun pins s σ H Q I ⟨_, _, _, _, _, _, q⟩ => False.elim q⟩
theorem pe_bad0 : PE X a (tV0 X p W .bad) := ⟨fun pins s σ H Q I ⟨_, _, _, _, _, q⟩ => False.elim q⟩
theorem pe_badP : PE X a (tP X p W .bad) := ⟨fun pins s σ H Q I ⟨_, _, _, _, _, _, q⟩ => False.elim q⟩
theorem pe_badP0 : PE X a (tP0 X p W .bad) := ⟨fun pins s σ H Q I ⟨_, _, _, _, _, q⟩ => False.elim q⟩
theorem pt_badT : PT X a (tT X p W .bad) := ⟨fun pins s σ H Q I ⟨_, _, _, _, _, _, q⟩ => False.elim q⟩
theorem pi_badI {tg : Expr} : PI X tg a (tI X p W .bad) := ⟨fun pins s σ H Q I ⟨_, _, _, _, _, _, q⟩ => False.elim q⟩
theorem bad_nl {nl : List Nat} : ∀ (e : Env) (q : Nat × Pth) (e' : Env), (M.bad : M (Nat × Pth)) e = .ok q e' → q.1 ∈ nl := fun _ _ _ h => nomatch h
theorem BOk.bad' : BOk X p W a {} := ⟨pe_badW, pe_badV, pt_badT, fun _ => pi_badI, pe_bad0, pe_badP, pe_badP0, pe_badV, bad_nl⟩
theorem BOk.bad : BOk X p W a (sem s .bad) := BOk.bad'
def plainT (a : Expr) : Prop := ∀ (env : PySem.Env) whole, isTrue a env whole = (do let v ← whole; standAt a.pos; holding [v] (truthy v))
theorem BOk.v (E : EC cf s bk X p W) {v : M D} (ht : plainT a) (h : PE X a (tV X p W v)) : BOk X p W a (mkV s.io v) := ⟨pe_weak h, h, pt_tru (pe_weak h) (ht _), fun tg => pi_seqM E.O h, pe_zero h, pe_badP, pe_badP0, h, bad_nl⟩
theorem BOk.w (E : EC cf s bk X p W) {w : M D} (ht : plainT a) (h : PE X a (tW X p W w)) : BOk X p W a (mkW s.io w) := ⟨h, pe_strong h, pt_tru h (ht _), fun tg => pi_seqM E.O (pe_strong h), pe_zero (pe_strong h), pe_badP, pe_badP0, pe_strong h, bad_nl⟩
theorem BOk.t (E : EC cf s bk X p W) {v : M D} {t : M Bool} (h : PE X a (tV X p W v)) (ht : PT X a (tT X p W t)) : BOk X p W a (mkT s.io v t) := ⟨pe_weak h, h, ht, fun tg => pi_seqM E.O h, pe_zero h, pe_badP, pe_badP0, h, bad_nl⟩
theorem BOk.plc (E : EC cf s bk X p W) {w h : M D} {pl : M (Nat × Pth)} (ht : plainT a) (hw : PE X a (tW X p W w)) (hh : PE X a (tV X p W h)) (hp : PE X a (tP X p W pl)) (hn : ∀ e q e', pl e = .ok q e' → q.1 ∈ p.nl) : BOk X p W a (mkP s.io w h pl) :=
  ⟨hw, pe_vhM hw hh, pt_tru hw (ht _), fun tg => pi_place E.O hp (pe_vhM hw hh), pe_zero (pe_vhM hw hh), hp, pe_p0 hp, pe_vhM hw hh, hn⟩
theorem on_none {F : Value → Value → Sem Value} : OpN X F (fun _ _ => none) := fun pins s σ H x y v u Q I rx ry ⟨_, dx, dy, n, w1, w2, ho, q⟩ => by cases ho
theorem on_op (op : Operator) : OpN X (binaryOp op) (opD op) := by
  cases op <;> first | exact on_add | exact on_sub | exact on_mulE | exact on_fdiv | exact on_mod | exact on_none
theorem on_cmp (hu : X.A.units + 65 < cLine) (op : CmpOp) : OpN X (compareOp op) (cmpD op) := by
  cases op
  · exact on_eq (by omega)
  · exact on_ne (by omega)
  · exact on_lt
  · exact on_le
  · exact on_gt
  · exact on_ge
  · exact on_is
  · exact on_isn
  · exact on_in hu
  · exact on_nin hu
theorem slotP1_nl {i : Nat} {nl : List Nat} (h : i ∈ nl) : slotP1 i = slotP nl i := by
  unfold slotP1 slotP
  funext e
  simp [h]
theorem slotP_nl {i : Nat} {nl : List Nat} : ∀ (e : Env) (q : Nat × Pth) (e' : Env), slotP nl i e = .ok q e' → q.1 ∈ nl := fun e q e' h => by
  unfold slotP at h
  split at h
  · split at h
    · cases h; assumption
    · cases h
  · cases h
theorem ok_name (E : EC cf s bk X p W) (x : Str) : BOk X p W (.Name x pos) (sem s (cName cf bk x)) := by
  have pl : plainT (.Name x pos) := fun _ _ => rfl
  unfold cName
  by_cases h1 : nmB x = true
  case neg => rw [if_neg h1]; exact .bad
  rw [if_pos h1]
  obtain ⟨n1, n2, n3⟩ := nmB_of h1
  by_cases h2 : visB bk.sc x = true
  · rw [if_pos h2]
    cases hi : ixOf cf.N x with
    | none => exact .bad
    | some i =>
      have hN : X.N[i]? = some x := by rw [E.N]; exact ixOf_get hi
      have hv : Vis X.env.scope x := by rw [E.sc]; exact visB_of h2
      have w := pe_slotW (p := p) (W := W) (pos := pos) hN hv n1 n2
      have v := pe_slotC (p := p) (W := W) (pos := pos) hN hv n1 n2
      have sh := pe_slotS (p := p) (W := W) (pos := pos) (io := s.io) E.O hN hv n1 n2
      dsimp only
      by_cases hp : i ∈ bk.nl
      · rw [if_pos hp]
        have hp' : i ∈ p.nl := by rw [E.nl]; exact hp
        have ep : slotP1 i = slotP p.nl i := slotP1_nl hp'
        have P : PE X (.Name x pos) (tP X p W (slotP1 i)) := by rw [ep]; exact pe_slotP hN hv n1 n2
        have Pn : ∀ e q e', slotP1 i e = .ok q e' → q.1 ∈ p.nl := by rw [ep]; exact slotP_nl
        by_cases hs : i ∈ cf.shs
        · rw [if_pos hs]
          exact ⟨w, pe_vhM w sh, pt_tru w (pl _), fun tg => pi_place E.O P sh, pe_zero (pe_vhM w sh), P, pe_p0 P, sh, Pn⟩
        · rw [if_neg hs]
          exact ⟨w, v, pt_tru w (pl _), fun tg => pi_place E.O P sh, pe_zero v, P, pe_p0 P, sh, Pn⟩
      · rw [if_neg hp]
        exact ⟨w, v, pt_tru w (pl _), fun tg => pi_seqM E.O sh, pe_zero v, pe_badP, pe_badP0, sh, bad_nl⟩
  · rw [if_neg h2]
    by_cases h3 : glB bk.sc x = true
    case neg => rw [if_neg h3]; exact .bad
    rw [if_pos h3]
    obtain ⟨k, _, G⟩ := E.gl
    cases hc : cf.cs.lookup x with
    | some c =>
      dsimp only
      by_cases hz : isCst c = true
      case neg => rw [if_neg hz]; exact .bad
      rw [if_pos hz]
      obtain ⟨v, u, e1, e2, e3⟩ := G.cst x c hc
      have key : ∀ d : D, vOf d = some v → BOk X p W (.Name x pos) (mkW s.io (.ret d)) := fun d hd => .w E pl (pe_cst (pe_glob (E.gk h3) e2 e3 n1) hd)
      cases c <;> first | (dsimp only at e1; subst e1; exact key _ rfl) | exact absurd hz Bool.false_ne_true
    | none =>
      dsimp only
      by_cases hz : x ∈ cf.bl
      case neg =>
        rw [if_neg hz]
        by_cases hl : x ∈ cf.cl
        · rw [if_pos hl]; exact .w E pl (pe_fnv (u := .none) (v := .non) (E.gk h3) (G.cl x hl) n1)
        · rw [if_neg hl]; exact .bad
      rw [if_pos hz]
      have hm := G.blt x hz
      have key : ∀ T : String, bootBuiltins x = some (.type T) → BOk X p W (.Name x pos) (sem s (.ty T)) := fun T hb => .w E pl (pe_cst (pe_bltn (v := .ty T) (E.gk h3) hm hb rfl n3 n1) rfl)
      unfold tyC
      split
      · rename_i e; subst e; exact key "int" rfl
      split
      · rename_i e; subst e; exact key "str" rfl
      split
      · rename_i e; subst e; exact key "list" rfl
      split
      · rename_i e; subst e; exact key "tuple" rfl
      split
      · rename_i e; subst e; exact key "dict" rfl
      split
      · rename_i e; subst e; exact key "bool" rfl
      split
      · rename_i e; subst e; exact key "ValueError" rfl
      exact .bad
theorem ok_cst (E : EC cf s bk X p W) (k : Const) {j : Nat} : BOk X p W (.Constant k j pos) (sem s (cCst k)) := by
  have pl : plainT (.Constant k j pos) := fun _ _ => rfl
  cases k <;> first | exact .bad | exact .w E pl (pe_cst pe_non rfl) | exact .w E pl (pe_cst pe_bl rfl) | exact .w E pl (pe_cst pe_int rfl) | exact .w E pl (pe_cst pe_str rfl)
theorem ok_AW (O : EOk cf s f) (E : EC cf s bk X p W) : ∀ es : List Expr, es.all noStar = true → PA X es (tAW X p W (sem s (cA (f bk) es)).AW)
  | [], _ => pa_nilW
  | a :: es, h => by
    rw [List.all_cons, Bool.and_eq_true] at h
    exact pa_consW (O E a).W (ok_AW O E es h.2) (noStar_of h.1 es _)
theorem ok_AV (O : EOk cf s f) (E : EC cf s bk X p W) : ∀ es : List Expr, es.all noStar = true → PA X es (tAV X p W (sem s (cA (f bk) es)).AV)
  | [], _ => pa_nilV
  | a :: es, h => by
    rw [List.all_cons, Bool.and_eq_true] at h
    exact pa_consV (O E a).V (ok_AV O E es h.2) (noStar_of h.1 es _)
theorem ok_AH (O : EOk cf s f) (E : EC cf s bk X p W) : ∀ es : List Expr, es.all noStar = true → PA X es (tAV X p W (sem s (cA (f bk) es)).AH)
  | [], _ => pa_nilV
  | a :: es, h => by
    rw [List.all_cons, Bool.and_eq_true] at h
    exact pa_consV (O E a).H (ok_AH O E es h.2) (noStar_of h.1 es _)
theorem ok_andT (O : EOk cf s f) (E : EC cf s bk X p W) : ∀ es : List Expr, PW X (.BoolOp .And es pos) (tT X p W (sem s (cBool .an (f bk) es)).T)
  | [] => ⟨fun wh pins s σ H Q I ⟨_, _, _, _, _, _, q⟩ => False.elim q⟩
  | [a] => pw_and1 (O E a).T
  | a :: b :: es => pw_andM (O E a).T (ok_andT O E (b :: es))
theorem ok_orT (O : EOk cf s f) (E : EC cf s bk X p W) : ∀ es : List Expr, PW X (.BoolOp .Or es pos) (tT X p W (sem s (cBool .ro (f bk) es)).T)
  | [] => ⟨fun wh pins s σ H Q I ⟨_, _, _, _, _, _, q⟩ => False.elim q⟩
  | [a] => pw_or1 (O E a).T
  | a :: b :: es => pw_orM (O E a).T (ok_orT O E (b :: es))
theorem ok_andV (O : EOk cf s f) (E : EC cf s bk X p W) : ∀ es : List Expr, PE X (.BoolOp .And es pos) (tV X p W (sem s (cBool .an (f bk) es)).V)
  | [] => pe_badV
  | [a] => pe_one (O E a).V
  | a :: b :: es => pe_andV (O E a).W (ok_andV O E (b :: es))
theorem ok_orV (O : EOk cf s f) (E : EC cf s bk X p W) : ∀ es : List Expr, PE X (.BoolOp .Or es pos) (tV X p W (sem s (cBool .ro (f bk) es)).V)
  | [] => pe_badV
  | [a] => pe_one (O E a).V
  | a :: b :: es => pe_orV (O E a).W (ok_orV O E (b :: es))
theorem ok_O (O : EOk cf s f) (E : EC cf s bk X p W) : ∀ e : Option Expr, PO X e (tO X p W (sem s (cO (f bk) e)).O)
  | none => po_noneM
  | some e => po_someM (O E e).W
theorem bltIs_of (E : EC cf s bk X p W) {x : Str} (h : bltIs cf bk x = true) : Gl X x ∧ X.mg x = none := by
  unfold bltIs at h
  rw [Bool.and_eq_true] at h
  obtain ⟨k, _, G⟩ := E.gl
  exact ⟨E.gk h.1, G.blt x (of_decide_eq_true h.2)⟩
theorem isTup_of {tg : Expr} (h : isTup tg = true) : ∃ es k ps, tg = .Tuple es k ps := by
  cases tg <;> first | exact ⟨_, _, _, rfl⟩ | cases h
theorem ok_It (O : EOk cf s f) (E : EC cf s bk X p W) (tg e : Expr) : PI X tg e (tI X p W (sem s (cIt cf (f bk) bk tg e)).I) := by
  unfold cIt
  split
  · split
    · rename_i h
      obtain ⟨rfl, h2, h3, h4⟩ := h
      obtain ⟨es, k, ps, rfl⟩ := isTup_of h4
      exact pi_itemsV E.O (O E _).V (baseOk_of h2 _ _) h3
    · exact (O E _).I tg
  · split
    · rename_i h
      obtain ⟨rfl, h2, h3⟩ := h
      obtain ⟨g1, g2⟩ := bltIs_of E h2
      exact pi_rng1 g1 g2 (O E _).W (noStar_one h3 _)
    · split
      · rename_i h
        obtain ⟨rfl, h2, h3, h4⟩ := h
        obtain ⟨g1, g2⟩ := bltIs_of E h2
        obtain ⟨es, k, ps, rfl⟩ := isTup_of h4
        exact pi_enumM g1 g2 E.O (O E _).H (noStar_one h3 _)
      · exact (O E _).I tg
  · split
    · rename_i h
      obtain ⟨rfl, h2, h3, h4⟩ := h
      obtain ⟨g1, g2⟩ := bltIs_of E h2
      exact pi_rng2 g1 g2 (O E _).W (O E _).W (by rw [noStar_of h3, noStar_one h4]) (noStar_one h4 _)
    · split
      · rename_i h
        obtain ⟨rfl, h2, h3, h4, h5⟩ := h
        obtain ⟨g1, g2⟩ := bltIs_of E h2
        obtain ⟨es, k, ps, rfl⟩ := isTup_of h5
        exact pi_zipA' g1 g2 E.O (O E _).H (O E _).H (noStar_of h3 _ _) (noStar_one h4 _) (noStar_any (by simp [h4]) _ _)
      · exact (O E _).I tg
  · exact (O E _).I tg
theorem folded_of {e : Expr} (h : isSet e = false) (env : PySem.Env) (x : Value) : foldedSetIterable e env x = pure x := by
  cases e <;> first | rfl | cases h
theorem cTg1_of (E : EC cf s bk X p W) {own : Option (List Nat)} {tg : Expr} {ft : D → Env → Option Env} (h : (sem s (cTg1 cf bk own tg)).G = some ft) : isName tg = true ∧ PG X tg (tGg X p (decide (own = none)) (own.getD []) ft) := by
  unfold cTg1 at h
  split at h
  · rename_i x p'
    split at h
    · rename_i h1
      split at h
      · rename_i i hi
        split at h
        · rename_i h2
          cases h
          obtain ⟨l1, l2⟩ := locB_of h1
          refine ⟨rfl, pg_nameG (io := s.io) E.io (by rw [E.N]; exact E.nd) (by rw [E.N]; exact ixOf_get hi) (by rw [E.sc]; exact l1) (by rw [E.fn, E.sc]; exact l2) ?_⟩
          rcases h2 with h2 | h2
          · exact .inl (decide_eq_true h2)
          · exact .inr (by rw [E.nl]; exact h2)
        · cases h
      · cases h
    · cases h
  · cases h
theorem cTgs_of (E : EC cf s bk X p W) {own : Option (List Nat)} : ∀ {es : List Expr} {fs : List (D → Env → Option Env)}, (sem s (cA (cTg1 cf bk own) es)).GL = some fs → TgsOk X p (decide (own = none)) (own.getD []) es fs ∧ (assignEach es X.env).length = fs.length ∧ (assignEach es X.env).findIdx? (·.1) = none
  | [], fs, h => by cases h; exact ⟨.nil, rfl, rfl⟩
  | t :: es, fs, h => by
    have h : glC (sem s (cTg1 cf bk own t)).G (sem s (cA (cTg1 cf bk own) es)).GL = some fs := h
    unfold glC at h
    cases h1 : (sem s (cTg1 cf bk own t)).G with
    | none => rw [h1] at h; cases h
    | some f1 =>
      cases h2 : (sem s (cA (cTg1 cf bk own) es)).GL with
      | none => rw [h1, h2] at h; cases h
      | some fs1 =>
        rw [h1, h2] at h
        cases h
        obtain ⟨k1, k2⟩ := cTg1_of E h1
        obtain ⟨r1, r2, r3⟩ := cTgs_of E h2
        have ha : assignEach (t :: es) X.env = (false, assign t X.env) :: assignEach es X.env := by cases t <;> first | rfl | cases k1
        exact ⟨.cons k1 k2 r1, by rw [ha, List.length_cons, r2, List.length_cons], by rw [ha, List.findIdx?_cons, r3]; rfl⟩
theorem cTg_ok (E : EC cf s bk X p W) {own : Option (List Nat)} {tg : Expr} {ft : D → Env → Option Env} (h : (sem s (cTg cf bk own tg)).G = some ft) : PG X tg (tGg X p (decide (own = none)) (own.getD []) ft) := by
  unfold cTg at h
  split at h
  · rename_i es k ps
    split at h
    case isFalse => cases h
    rename_i hh
    have h : (sem s (cA (cTg1 cf bk own) es)).GL.map tupG = some ft := h
    cases h2 : (sem s (cA (cTg1 cf bk own) es)).GL with
    | none => rw [h2] at h; cases h
    | some fs =>
      rw [h2] at h
      cases h
      obtain ⟨r1, r2, r3⟩ := cTgs_of E h2
      exact pg_tupG (E.calm hh) r1 r2 r3
  · exact (cTg1_of E h).2
theorem cTgO_of (E : EC cf s bk X p W) {own : List Nat} {tg : Expr} {ft : D → Env → Option Env} (h : (sem s (cTg cf bk (some own) tg)).G = some ft) : PG X tg (tGo X p own ft) := tGg_o (cTg_ok E h)
theorem cTg_of (E : EC cf s bk X p W) {tg : Expr} {ft : D → Env → Option Env} (h : (sem s (cTg cf bk none tg)).G = some ft) : PG X tg (tG0 X p ft) := tGg_0 (cTg_ok E h)
theorem pts_nilM : PTs X [] (tT X p W (.ret true)) := ⟨fun pins s σ H Q I ⟨lk, L, e, st, ws, g, q⟩ => pts_nil.run pins s σ H Q I (q H g)⟩
theorem pts_badM {ifs : List Expr} : PTs X ifs (tT X p W .bad) := ⟨fun pins s σ H Q I ⟨_, _, _, _, _, _, q⟩ => False.elim q⟩
theorem ok_ifs (O : EOk cf s f) (E : EC cf s bk X p W) (ifs : List Expr) : PTs X ifs (tT X p W (sem s (match ifs with
      | [] => .yes
      | [c] => f bk c
      | _ => .bad)).T) := by
  split
  · exact pts_nilM
  · exact pts_one (O E _).T
  · exact pts_badM
theorem ok_Lc (O : EOk cf s f) (E : EC cf s bk X p W) (elt tg iter : Expr) (ifs : List Expr) (scope : Scope) : BOk X p W (.ListComp elt [⟨tg, iter, ifs, 0⟩] scope pos) (sem s (cLc cf f bk elt tg iter ifs scope)) := by
  unfold cLc
  split
  case isFalse => exact .bad
  rename_i h
  obtain ⟨hh, h1, h2, h3⟩ := h
  split
  · rename_i i hu
    unfold lcuOf at hu
    split at hu
    case h_2 => cases hu
    rename_i x px
    split at hu
    case isFalse => cases hu
    rename_i hx
    split at hu
    case h_2 => cases hu
    rename_i i' hi'
    split at hu
    case isFalse => cases hu
    cases hu
    obtain ⟨n1, n2, n3⟩ := nmB_of hx.1
    refine .v E (fun _ _ => rfl) ?_
    unfold lcUG
    split
    case h_2 => exact pe_badV
    rename_i ft hft
    exact pe_lcU (E.calm hh) (by rw [E.N]; exact E.nd) (by rw [E.nl]; exact E.nl0) (fun i hi => by rw [E.nl]; exact of_decide_eq_true (List.all_eq_true.mp h2 i hi)) (by rw [E.N]; exact ixOf_get hi') (by rw [E.sc]; exact visB_of hx.2) n1 n2 (by rw [E.N, E.sc]; exact blkOk_by h1)
      (fun s' H C cl fp => cTgO_of (E.blk hh scope s' H C cl fp) hft) (fun s' H C cl fp => ok_ifs O (E.blk hh scope s' H C cl fp) ifs) (fun s' H C cl fp => (O (E.blk hh scope s' H C cl fp) elt).V)
  refine .v E (fun _ _ => rfl) ?_
  unfold lcG
  split
  case h_2 => exact pe_badV
  rename_i ft hft
  exact pe_lcM (E.calm hh) (by rw [E.N]; exact E.nd) (by rw [E.nl]; exact E.nl0) (fun i hi => by rw [E.nl]; exact of_decide_eq_true (List.all_eq_true.mp h2 i hi)) (ok_It O E tg iter) (by rw [E.N, E.sc]; exact blkOk_by h1)
    (fun s' H C cl fp => cTgO_of (E.blk hh scope s' H C cl fp) hft) (fun s' H C cl fp => ok_ifs O (E.blk hh scope s' H C cl fp) ifs) (fun s' H C cl fp => (O (E.blk hh scope s' H C cl fp) elt).V) (folded_of h3 _)
theorem plainC {f : Expr} {args : List Expr} {kws : List Keyword} : plainT (.Call f args kws pos) := fun _ _ => rfl
theorem ok_blt (O : EOk cf s f) (E : EC cf s bk X p W) {x : Str} {p1 : Pos} {a : Expr} {es : List Expr} (hn : nmB x = true) (hg : glB bk.sc x = true) (hb : x ∈ cf.bl) (hh : bk.hot = false ∨ hotOk x = true) (hs : (a :: es).all noStar = true) :
    BOk X p W (.Call (.Name x p1) (a :: es) [] pos) (sem s (bltC x (cA (f bk) (a :: es)))) := by
  obtain ⟨n1, n2, n3⟩ := nmB_of hn
  have hg := E.gk hg
  obtain ⟨k, _, G⟩ := E.gl
  have hm := G.blt x hb
  have ha := ok_AW O E (a :: es) hs
  rw [List.all_cons, Bool.and_eq_true] at hs
  have h1 := noStar_of hs.1 es X.env
  have h2 := noStar_any hs.2 pos X.env
  have calm : hotOk x = false → X.calm = true := fun z => hh.elim E.calm fun y => by rw [z] at y; cases y
  unfold bltC
  by_cases e : x = "len"
  · rw [if_pos e]; subst e; exact .v E plainC (pe_callN cn_lenE hg hm rfl ha n3 n1 h1 h2)
  rw [if_neg e]
  by_cases e : x = "isinstance"
  · rw [if_pos e]; subst e; exact .v E plainC (pe_callNX (cx_isi G.tb G.xc) hg hm rfl ha n3 n1 h1 h2)
  rw [if_neg e]
  by_cases e : x = "min"
  · rw [if_pos e]; subst e; exact .v E plainC (pe_callN (cn_minE (calm rfl)) hg hm rfl ha n3 n1 h1 h2)
  rw [if_neg e]
  by_cases e : x = "max"
  · rw [if_pos e]; subst e; exact .v E plainC (pe_callN (cn_maxE (calm rfl)) hg hm rfl ha n3 n1 h1 h2)
  rw [if_neg e]
  by_cases e : x = "all"
  · rw [if_pos e]; subst e; exact .v E plainC (pe_callN (cn_all (calm rfl)) hg hm rfl ha n3 n1 h1 h2)
  rw [if_neg e]
  by_cases e : x = "any"
  · rw [if_pos e]; subst e; exact .v E plainC (pe_callN (cn_any (calm rfl)) hg hm rfl ha n3 n1 h1 h2)
  rw [if_neg e]
  by_cases e : x = "abs"
  · rw [if_pos e]; subst e; exact .v E plainC (pe_callN cn_abs hg hm rfl ha n3 n1 h1 h2)
  rw [if_neg e]
  by_cases e : x = "str"
  · rw [if_pos e]; subst e; exact .v E plainC (pe_callTyN cn_str hg hm rfl ha n3 n1 h1 h2)
  rw [if_neg e]
  by_cases e : x = "list"
  · rw [if_pos e]; subst e; exact .v E plainC (pe_callTyN cn_list hg hm rfl ha n3 n1 h1 h2)
  rw [if_neg e]
  by_cases e : x = "int"
  · rw [if_pos e]; subst e; exact .v E plainC (pe_callTyN cn_int hg hm rfl ha n3 n1 h1 h2)
  rw [if_neg e]
  by_cases e : x = "sorted"
  · rw [if_pos e]; subst e; exact .v E plainC (pe_callNX (cx_sor (calm rfl) E.un) hg hm rfl ha n3 n1 h1 h2)
  rw [if_neg e]
  by_cases e : x = "tuple"
  · rw [if_pos e]; subst e; exact .v E plainC (pe_callTyN cn_tuple hg hm rfl ha n3 n1 h1 h2)
  rw [if_neg e]
  exact .bad
theorem m1_of {o : Expr} {m : Str} {apos : Pos} (hb : baseOk o = true) (hl : (apos.endLine == pos.line) = true) (h1 : noStar a = true) : M1 X o m apos a pos :=
  ⟨baseOk_of hb m _, by rw [noStar_one h1]; rfl, hl, by rw [noStar_one h1]; rfl⟩
theorem m2_of {o : Expr} {m : Str} {apos : Pos} (hb : baseOk o = true) (hl : (apos.endLine == pos.line) = true) (h1 : noStar a = true) (h2 : noStar b = true) : M2 X o m apos a b pos :=
  ⟨baseOk_of hb m _, by rw [noStar_of h1, noStar_one h2]; rfl, hl, by rw [noStar_of h1, noStar_one h2]; rfl⟩
theorem BOk.z {v : M D} (h : PE X a (tV0 X p W v)) : BOk X p W a { V0 := v } := ⟨pe_badW, pe_badV, pt_badT, fun _ => pi_badI, h, pe_badP, pe_badP0, pe_badV, bad_nl⟩
theorem ok_Meth0 (O : EOk cf s f) (E : EC cf s bk X p W) (m : Str) (o : Expr) (args : List Expr) (apos : Pos) (hb : baseOk o = true) (hl : (apos.endLine == pos.line) = true) (hs : args.all noStar = true) :
    BOk X p W (.Call (.Attribute o m apos) args [] pos) (sem s (cMeth0 (f bk) bk m o args)) := by
  unfold cMeth0
  split
  · split
    · rename_i e; subst e; exact .z (pe_lmM0 PySem.F.slot_list_pop PySem.F.type_list_pop mt_pop lm_pop (O E o).PL0 (baseOk_of hb _ _) hl)
    split
    · rename_i e; subst e; exact .z (pe_lmM0 PySem.F.slot_list_clear PySem.F.type_list_clear mt_clear lm_clear (O E o).PL0 (baseOk_of hb _ _) hl)
    exact .bad
  · rename_i a
    have hs : noStar a = true := by simpa using hs
    have h1 := noStar_one hs X.env
    split
    · rename_i e; subst e; exact .v E plainC (pe_smM1 F.slot_str_join F.type_str_join mn_join (O E o).W (O E a).W h1 (baseOk_of hb _ _) hl)
    split
    · rename_i e; subst e; exact .v E plainC (pe_smM1 F.slot_str_split F.type_str_split mn_split (O E o).W (O E a).W h1 (baseOk_of hb _ _) hl)
    split
    · rename_i e; subst e; exact .v E plainC (pe_smM1 F.slot_str_startswith F.type_str_startswith mn_starts (O E o).W (O E a).W h1 (baseOk_of hb _ _) hl)
    split
    · rename_i e; subst e; exact .z (pe_lmM PySem.F.slot_list_append PySem.F.type_list_append mt_append lm_append (O E o).PL0 (pa_consV (O E a).V pa_nilV (noStar_of hs [] _)) (baseOk_of hb _ _) (by rw [h1]; rfl) hl h1 rfl)
    split
    · rename_i e; subst e; exact .w E plainC (pe_get1M (by have := E.un; omega) (m1_of hb hl hs) (O E o).W (O E a).W)
    exact .bad
  · rename_i a b
    obtain ⟨h1, h2⟩ : noStar a = true ∧ noStar b = true := by simpa using hs
    have e1 := noStar_of h1 [b] X.env
    have e2 := noStar_one h2 X.env
    split
    · rename_i e; subst e
      exact .z (pe_lmM PySem.F.slot_list_insert PySem.F.type_list_insert mt_insert lm_insert (O E o).PL0 (pa_consV (O E a).V (pa_consV (O E b).V pa_nilV (noStar_of h2 [] _)) (noStar_of h1 [b] _)) (baseOk_of hb _ _) (by rw [e1, e2]; rfl) hl (by rw [e1]) (by rw [e2]; rfl))
    split
    · rename_i e; subst e
      exact ⟨pe_badW, pe_badV, pt_badT, fun _ => pi_badI, pe_bad0, pe_badP, pe_sdP (m2_of hb hl h1 h2) (O E o).PLn (O E o).PL (O E a).W (O E b).V, pe_badV, bad_nl⟩
    split
    · rename_i e; subst e
      exact .plc E plainC (pe_get2M (by have := E.un; omega) (m2_of hb hl h1 h2) (O E o).W (O E a).W (O E b).W) (pe_get2H (by have := E.un; omega) E.O (m2_of hb hl h1 h2) (O E o).PL (O E a).W (O E b).V) pe_badP bad_nl
    exact .bad
  · exact .bad
theorem few_of {args : List Expr} (h : fewA args = true) (hs : args.all noStar = true) (env : PySem.Env) : ((backTo pos (starEach args env)).all (fun x => !x.1) && (backToKw pos (keywordEach [] env)).all (fun x => x.1.isSome) && decide (args.length + ([] : List Keyword).length + (if ([] : List Keyword).isEmpty then 0 else 1) < 30)) = true := by
  unfold fewA at h
  have h := of_decide_eq_true h
  have e1 : (backTo pos (starEach args env)).all (fun x => !x.1) = true := by
    have := noStar_any hs pos env
    rw [List.all_eq_true]
    rw [List.any_eq_false] at this
    intro x hx
    have := this x hx
    cases q : x.1 with
    | true => exact absurd q this
    | false => rfl
  rw [e1, Bool.true_and]
  show (true && decide (args.length + 0 + 0 < 30)) = true
  rw [Bool.true_and]
  exact decide_eq_true (by omega)
theorem ok_Meth (O : EOk cf s f) (E : EC cf s bk X p W) (m : Str) (o : Expr) (args : List Expr) (apos : Pos) (hb : baseOk o = true) (hl : (apos.endLine == pos.line) = true) (hs : args.all noStar = true) :
    BOk X p W (.Call (.Attribute o m apos) args [] pos) (sem s (cMeth cf (f bk) bk m o args)) := by
  unfold cMeth
  split
  · rename_i i hi
    split
    case isFalse => exact .bad
    rename_i hh
    refine .v E plainC ?_
    have hget := ixOf_get hi
    rw [List.getElem?_map, Option.map_eq_some_iff] at hget
    obtain ⟨q, hq, rfl⟩ := hget
    obtain ⟨k, hr, G⟩ := E.gl
    obtain ⟨n, F, hF, K⟩ := G.ms i q hq
    unfold Sm.mth
    rw [hF]
    cases args with
    | nil => exact pe_methM0 (K := ⟨K⟩) (hr hh.1) E.tk (O E o).W (baseOk_of hb _ _) hl
    | cons a es =>
      have ha := ok_AW O E (a :: es) hs
      have hfw := few_of (pos := pos) hh.2 hs X.env
      rw [List.all_cons, Bool.and_eq_true] at hs
      exact pe_methM (K := ⟨K⟩) (hr hh.1) E.tk (O E o).W ha (baseOk_of hb _ _) hfw hl (noStar_of hs.1 es _) (noStar_any hs.2 pos _)
  · exact ok_Meth0 O E m o args apos hb hl hs
theorem ok_Call (O : EOk cf s f) (E : EC cf s bk X p W) (g : Expr) (args : List Expr) (kws : List Keyword) : BOk X p W (.Call g args kws pos) (sem s (cCall cf f bk g args kws pos)) := by
  unfold cCall
  split
  · rename_i x p1
    split
    · rename_i h
      obtain ⟨hn, hg, hs⟩ := h
      obtain ⟨n1, n2, n3⟩ := nmB_of hn
      split
      · rename_i i hf
        split
        case isFalse => exact .bad
        rename_i hh
        obtain ⟨k, hr, G⟩ := E.gl
        obtain ⟨n, F, hF, fa, fd, ps, Fn, hm, hk, hb⟩ := G.fn i x (ixOf_get hf)
        split
        · rename_i hk2
          refine .v E plainC ?_
          unfold Sm.fnH
          rw [hF]
          cases args with
          | nil => exact absurd rfl hk2.2
          | cons a es =>
            have ha := ok_AH O E (a :: es) hs
            rw [List.all_cons, Bool.and_eq_true] at hs
            exact pe_callHM Fn (hr hh) (E.gk hg) hm hk hb E.tk ha n1 (noStar_of hs.1 es _) (noStar_any hs.2 pos _)
        · refine .v E plainC ?_
          unfold Sm.fn
          rw [hF]
          cases args with
          | nil => exact pe_callFM0 Fn (hr hh) (E.gk hg) hm hk hb E.tk n1
          | cons a es =>
            have ha := ok_AW O E (a :: es) hs
            rw [List.all_cons, Bool.and_eq_true] at hs
            exact pe_callFM Fn (hr hh) (E.gk hg) hm hk hb E.tk ha n1 (noStar_of hs.1 es _) (noStar_any hs.2 pos _)
      · rename_i hf
        split
        · rename_i flds hfl
          split
          case isFalse => exact .bad
          rename_i h
          cases args with
          | nil => exact absurd rfl h.2.1
          | cons a es =>
            obtain ⟨k, hr, G⟩ := E.gl
            obtain ⟨h2, G⟩ := G.exo x flds hfl
            have ha := ok_AV O E (a :: es) hs
            rw [List.all_cons, Bool.and_eq_true] at hs
            exact .v E plainC (pe_exvM E.tk G (hr h.1) h2 (E.gk hg) h.2.2 ha n1 (noStar_of hs.1 es _) (noStar_any hs.2 pos _))
        · split
          · rename_i i hi
            split
            case isFalse => exact .bad
            rename_i hh
            obtain ⟨k, hr, G⟩ := E.gl
            obtain ⟨n, F, hF, k0, hk0, C, fi, fd, ps, K1, K2, K3, K4⟩ := G.mkc i x (ixOf_get hi)
            have KK : MkOk X k0 x n F := ⟨C, fi, fd, ps, K1, K2, K3, K4⟩
            have hr' : Room (k0 + 1) X.A := (hr hh).mono hk0
            split
            · cases args with
              | nil => exact .bad
              | cons a es =>
                show BOk X p W _ (mkV s.io (s.mkK i (sem s (cA (f bk) (a :: es))).AH))
                refine .v E plainC ?_
                unfold Sm.mkK
                rw [hF]
                have ha := ok_AH O E (a :: es) hs
                rw [List.all_cons, Bool.and_eq_true] at hs
                exact pe_mkH KK hr' (E.gk hg) E.tk ha n1 (noStar_of hs.1 es _) (noStar_any hs.2 pos _)
            · refine .v E plainC ?_
              unfold Sm.mkD
              rw [hF]
              cases args with
              | nil => exact pe_mkM0 KK hr' (E.gk hg) E.tk n1
              | cons a es =>
                have ha := ok_AW O E (a :: es) hs
                rw [List.all_cons, Bool.and_eq_true] at hs
                exact pe_mkM KK hr' (E.gk hg) E.tk ha n1 (noStar_of hs.1 es _) (noStar_any hs.2 pos _)
          · split
            · rename_i h
              cases args with
              | nil => exact absurd rfl h.2.1
              | cons a es => exact ok_blt O E hn hg h.1 h.2.2 hs
            · exact .bad
    · exact .bad
  · rename_i o m apos
    split
    · rename_i h
      exact ok_Meth O E m o args apos h.1 h.2.1 h.2.2
    · exact .bad
  · exact .bad
theorem ok_Prs (O : EOk cf s f) : ∀ {ks : List (Option Expr)} {vs : List Expr} {prs : CE}, EC cf s bk X p W0 → cPrs (f bk) ks vs = some prs → PPs X pos ks vs ((sem s prs).P.map fun q => (tW X p W0 q.1, tV X p W0 q.2)) ∧ ks.all (·.isSome) = true
  | [], [], prs, E, h => by cases h; exact ⟨pps_nil, rfl⟩
  | some k :: ks, v :: vs, prs, E, h => by
    unfold cPrs at h
    cases q : cPrs (f bk) ks vs with
    | none => rw [q] at h; cases h
    | some pr =>
      rw [q] at h
      cases h
      obtain ⟨h1, h2⟩ := ok_Prs O E q
      exact ⟨pps_cons (O E k).W (O E v).V h1, by rw [List.all_cons, h2]; rfl⟩
  | none :: _, _ :: _, _, _, h => by cases h
  | none :: _, [], _, _, h => by cases h
  | some _ :: _, [], _, _, h => by cases h
  | [], _ :: _, _, _, h => by cases h
theorem subPM_nl {fp : M (Nat × Pth)} {g : M D} {nl : List Nat} (h : ∀ e q e', fp e = .ok q e' → q.1 ∈ nl) : ∀ (e : Env) (q : Nat × Pth) (e' : Env), subPM fp g e = .ok q e' → q.1 ∈ nl := fun e q e' hq => by
  unfold subPM M.bind at hq
  split at hq
  · rename_i q0 e1 h0
    dsimp only at hq
    split at hq
    · split at hq
      · split at hq
        · split at hq
          · cases hq; exact h _ q0 _ h0
          · cases hq
        · cases hq
      · cases hq
    · cases hq
    · cases hq
  · cases hq
  · cases hq
theorem fldPM_nl {xt it : FTab} {n : Str} {fp : M (Nat × Pth)} {nl : List Nat} (h : ∀ e q e', fp e = .ok q e' → q.1 ∈ nl) : ∀ (e : Env) (q : Nat × Pth) (e' : Env), fldPM xt it n fp e = .ok q e' → q.1 ∈ nl := fun e q e' hq => by
  unfold fldPM M.bind at hq
  split at hq
  · rename_i q0 e1 h0
    dsimp only at hq
    split at hq
    · split at hq
      · cases hq; exact h _ q0 _ h0
      · cases hq
    · cases hq
  · cases hq
  · cases hq
theorem stpOfE_of {st : Expr} {j : Int} (h : stpOfE st = some j) : (j = -1 ∨ j = 2) ∧ PO X (some st) (fun σ H Q => Q (some j) H) := by
  unfold stpOfE at h
  split at h
  · cases h; exact ⟨.inl rfl, po_m1⟩
  · cases h; exact ⟨.inr rfl, po_2⟩
  · cases h
theorem ok_E (cf : Cf) (s : Sm) : ∀ n, EOk cf s (cE cf n)
  | 0 => fun _ _ _ _ _ _ => .bad
  | n + 1 => by
    intro bk X p W E e
    have O : EOk cf s (cE cf n) := ok_E cf s n
    unfold cE
    split
    · exact ok_name E _
    · exact ok_cst E _
    · rename_i c a b pos
      exact ⟨pe_ifW (O E c).T (O E a).W (O E b).W, pe_ifV (O E c).T (O E a).V (O E b).V, pt_badT, fun tg => pi_seqM E.O (pe_ifV (O E c).T (O E a).V (O E b).V), pe_zero (pe_ifV (O E c).T (O E a).V (O E b).V), pe_badP, pe_badP0, pe_ifV (O E c).T (O E a).H (O E b).H, bad_nl⟩
    · exact .v E (fun _ _ => rfl) (pe_sliM (O E _).W (ok_O O E _) (ok_O O E _))
    · split
      · rename_i j hj
        obtain ⟨h1, h2⟩ := stpOfE_of (X := X) hj
        exact .v E (fun _ _ => rfl) (pe_stpM h1 (O E _).W h2)
      · exact .bad
    · split
      · rename_i h; exact .plc E (fun _ _ => rfl) (pe_subM (by have := E.un; omega) (O E _).W (O E _).W (plainIx_of h)) (pe_plH E.O (pe_subP (by have := E.un; omega) (O E _).PL (O E _).W (plainIx_of h))) (pe_subP (by have := E.un; omega) (O E _).PL (O E _).W (plainIx_of h)) (subPM_nl (O E _).PLn)
      · exact .bad
    · split
      · rename_i h
        obtain ⟨k, _, G⟩ := E.gl
        exact .plc E (fun _ _ => rfl) (pe_fldM G.ft (O E _).W (baseOk_of h _ _)) (pe_plH E.O (pe_fldP G.ft (O E _).PL (baseOk_of h _ _))) (pe_fldP G.ft (O E _).PL (baseOk_of h _ _)) (fldPM_nl (O E _).PLn)
      · exact .bad
    · exact .v E (fun _ _ => rfl) (pe_binN (on_op _) (O E _).W (O E _).W)
    · exact .t E (pe_notV (O E _).W) (pt_notM (O E _).T)
    · exact .v E (fun _ _ => rfl) (pe_negM (O E _).W)
    · rename_i op vs pos
      split
      · rename_i h
        have key : ∀ {g : CE → CE → CE}, (∀ a b, sem s (g a b) = mkT s.io (sem s (g a b)).V (sem s (g a b)).T) → sem s (cBool g (cE cf n bk) vs) = mkT s.io (sem s (cBool g (cE cf n bk) vs)).V (sem s (cBool g (cE cf n bk) vs)).T := by
          intro g hg
          cases vs with
          | nil => simp at h
          | cons a r =>
            cases r with
            | nil => simp at h
            | cons b r => exact hg _ _
        cases op with
        | And => dsimp only; rw [key (g := .an) fun _ _ => rfl]; exact .t E (ok_andV O E _) (ok_andT O E _).pt
        | Or => dsimp only; rw [key (g := .ro) fun _ _ => rfl]; exact .t E (ok_orV O E _) (ok_orT O E _).pt
      · exact .bad
    · split
      · rename_i h; exact .t E (pe_cmpN (on_cmp E.un _) (O E _).W (O E _).W h) (pt_cmpM (on_cmp E.un _) (O E _).W (O E _).W h)
      · exact .bad
    · split
      · rename_i h; exact .t E (pe_chainM (on_cmp E.un _) (on_cmp E.un _) (O E _).W (O E _).W (O E _).W h) (pt_chainM (on_cmp E.un _) (on_cmp E.un _) (O E _).W (O E _).W (O E _).W h)
      · exact .bad
    · exact ok_Call O E _ _ _
    · split
      · rename_i h; exact .v E (fun _ _ => rfl) (pe_lstM (ok_AV O E _ h))
      · exact .bad
    · split
      · rename_i h; exact .v E (fun _ _ => rfl) (pe_tupM (ok_AV O E _ h))
      · exact .bad
    · split
      · rename_i h; subst h; exact ok_Lc O E _ _ _ _ _
      · exact .bad
    · split
      · rename_i h
        obtain ⟨rfl, rfl⟩ := h
        exact .v E (fun _ _ => rfl) pe_newDK
      · rename_i hne
        split
        · rename_i h
          split
          · rename_i prs hp
            obtain ⟨h1, h2⟩ := ok_Prs O E.w0 hp
            refine .v E (fun _ _ => rfl) (pe_dispM h1 h2 h.1 (fun z => hne ⟨z, ?_⟩) h.2)
            subst z
            exact List.eq_nil_of_length_eq_zero (by simpa using h.1.symm)
          · exact .bad
        · exact .bad
    · exact .bad
end
end DG

set_option Elab.async false
set_option linter.all false
set_option maxHeartbeats 4000000
/-! DJd: compiled statements, defs are right. -/
namespace DG
open PySem PySem.Spec PyProof.Rows L2
set_option autoImplicit false
abbrev Par.to (p : Par) (n : List Nat) : Par := { p with nl := n }
section
variable {X : Cx} {p : Par} {W : WX} {cf : Cf} {s : Sm} {bk : Bk} {a b c : Expr} {pos : Pos} {f : Bk → Expr → CE} {lk : List Addr} {L : Lk} {σ : L2.St} {H : Hp} {e : Env} {st : Stk}
theorem Gd.to {K : Kx} (n : List Nat) (g : Gd K p lk L σ H e st []) : Gd K (p.to n) lk L σ H e st [] := by
  obtain ⟨S, G, A, B, g⟩ := g
  exact ⟨S, G, A, B, ⟨⟨g.ok.1, g.ok.2, g.ok.3, g.ok.4⟩, g.hL, g.lkd, g.lkz, g.lke, g.env, g.stk, fun w hw => by (cases hw), g.nd, g.dj, g.ow, g.s0, g.sd, g.fr, g.oo, g.pin, g.nf⟩⟩
theorem Gd.from {K : Kx} {n : List Nat} (g : Gd K (p.to n) lk L σ H e st []) : Gd K p lk L σ H e st [] := by
  have h := Gd.to (p := p.to n) p.nl g
  exact h
theorem tS_to {m : M Fw} {D : Ends} (n : List Nat) (h : tS X p W m D σ H) : tS X (p.to n) W m D σ H := by
  obtain ⟨lk, L, e, st, g, q⟩ := h
  refine ⟨lk, L, e, st, g.to n, Res.run_mono q (fun fl e' q => ?_) fun c fs e' q σ cls d H' hx => q σ cls d H' ⟨hx.1, hx.2.imp (fun ⟨a, b, g⟩ => ⟨a, b, g.from⟩) fun ⟨dd, fv, a, b, c, d, g⟩ => ⟨dd, fv, a, b, c, d, g.from⟩⟩⟩
  cases fl with
  | next => exact fun σ' H' g => q σ' H' g.from
  | brk => exact fun σ' H' g => q σ' H' g.from
  | cont => exact fun σ' H' g => q σ' H' g.from
  | ret d => exact fun v σ' H' g => q v σ' H' g.from
theorem ps_to {m : M Fw} {st : Stmt} {n : List Nat} (h : PS X st (tS X (p.to n) W m)) : PS X st (tS X p W m) := PSmono h fun _ _ _ q => tS_to n q
/-- what is known of the context of a statement -/
structure SC (cf : Cf) (s : Sm) (bk : Bk) (X : Cx) (p : Par) (W : WX) : Prop where
  ec : ∀ n, 0 ∈ n → EC cf s { bk with nl := n } X (p.to n) W
  own : bk.hot = false → PassesOwn (model X.prog X.w) X.A X.env X.xe
  stk : X.stack = X.env :: X.outer
  frm : X.env.frame = some X.env.locals
  nl0 : 0 ∈ cf.nl
theorem SC.to (S : SC cf s bk X p W) (n : List Nat) : SC cf s bk X (p.to n) W := ⟨fun m h => S.ec m h, S.own, S.stk, S.frm, S.nl0⟩
theorem pick0 (h : 0 ∈ cf.nl) (g : Bk → CE) : 0 ∈ pick cf bk g := by
  unfold pick
  split
  · unfold allNl; simp
  · exact h
theorem SC.pk (S : SC cf s bk X p W) (g : Bk → CE) : EC cf s { bk with nl := pick cf bk g } X (p.to (pick cf bk g)) W := S.ec _ (pick0 S.nl0 g)
theorem SC.e0 (S : SC cf s bk X p W) : EC cf s { bk with nl := cf.nl } X (p.to cf.nl) W := S.ec _ S.nl0
theorem SC.wu (S : SC cf s bk X p W) : SC cf s bk X p (WU X W) := ⟨fun n h => let E := S.ec n h; ⟨E.N, E.nd, E.nl0, E.nl, E.sc, E.fn, E.calm, E.O, E.io, Takes.unl E.tk, E.un, E.gl⟩, S.own, S.stk, S.frm, S.nl0⟩
theorem SC.tr (S : SC cf s bk X p W) {W' : WX} (pn : List (Addr × Obj)) (xe : Value → Shared → Prop) (tk : Takes (X.tr pn xe) W') (own : PassesOwn (model X.prog X.w) X.A X.env xe) : SC cf s bk (X.tr pn xe) p W' :=
  ⟨fun n h => let E := S.ec n h; ⟨E.N, E.nd, E.nl0, E.nl, E.sc, E.fn, E.calm, E.O, E.io, tk, E.un, let ⟨k, r, G⟩ := E.gl; ⟨k, r, G.fn, G.cst, G.blt, G.cl, G.exo, G.exp, G.ext, G.tb, G.xc, G.ft, G.ms, G.mkc⟩⟩, fun _ => own, S.stk, S.frm, S.nl0⟩
theorem SC.suite (S : SC cf s bk X p W) (a : Addr) (pn : List (Addr × Obj)) : SC cf s { bk with hot := true } (X.suite a pn) p W0 :=
  ⟨fun n h => let E := S.ec n h; ⟨E.N, E.nd, E.nl0, E.nl, E.sc, E.fn, fun z => (by cases z), E.O, E.io, fun u s' ⟨a, B, sI, pins, σ, H, cls, d, e, I, nb, up, sky, na, os, ag, w⟩ => w.elim, E.un, let ⟨k, r, G⟩ := E.gl; ⟨k, fun z => (by cases z), G.fn, G.cst, G.blt, G.cl, G.exo, G.exp, G.ext, G.tb, G.xc, G.ft, G.ms, G.mkc⟩⟩, fun z => (by cases z), S.stk, S.frm, S.nl0⟩
/-! ### statements -/
theorem noComp_of {e : Expr} (h : isComp e = false) (t : Option Expr) (l : Nat) (env : PySem.Env) : swapsWith e t l env = pure false := by
  cases e <;> first | rfl | cases h
theorem ps_badM {st : Stmt} : PS X st (tS X p W .bad) := ⟨fun pins s σ H D I ⟨_, _, _, _, _, q⟩ => False.elim q⟩
theorem pss_badM {st : List Stmt} : PSs X st (tS X p W .bad) := ⟨fun pins s σ H D I ⟨_, _, _, _, _, q⟩ => False.elim q⟩
theorem ps_nextM {st : Stmt} (h : PS X st tNext) : PS X st (tS X p W (.ret .next)) := PSmono h fun D σ H ⟨lk, L, e, st, g, q⟩ => q σ H g
theorem store_imp {i : Nat} {io : Bool} {f : M D} {D : Ends} {lk : List Addr} {L : Lk} {σ : L2.St} {e : Env} {st : Stk} (hio : io = false → p.io = none) (q : (setM io i f e).run (FwK X p lk L st D) (XS X p W lk L st)) :
    (f e).run (fun d e' => ∀ v H', Gd X p lk L σ H' e' ((v, d) :: st) [] → D.nx (σ.set i (some v)) H') (XW X p W lk L σ st) :=
  Res.run_mono (run_bind q) (fun d e' q v H' g' => by
    obtain ⟨e2, he, q⟩ := run_lift (run_bind q)
    obtain ⟨h1, h2, rfl⟩ := putE_of he
    exact q _ _ (g'.store h1 (h2.elim (fun z => .inl (hio z)) .inr) (.inl rfl))) XS.xw
theorem lcG_none {own : List Nat} {io : Bool} {it : M (List D)} {t : M Bool} {v : M D} {i : Nat} {st : Stmt} : PS X st (tS X p W (setM io i (lcG own none it t v))) := ⟨fun pins s σ H D I ⟨_, _, _, _, _, q⟩ => False.elim q⟩
theorem setM_bad {io : Bool} {i : Nat} {st : Stmt} : PS X st (tS X p W (setM io i .bad)) := ⟨fun pins s σ H D I ⟨_, _, _, _, _, q⟩ => False.elim q⟩
theorem ok_setLc (O : EOk cf s f) (E : EC cf s bk X p W) {x : Str} {i : Nat} {ps cp : Pos} {elt tg iter : Expr} {ifs : List Expr} {scope : Scope} (hi : ixOf cf.N x = some i) (hs : swapB bk x ps cp scope = true) :
    PS X (.Assign [.Name x ps] (.ListComp elt [⟨tg, iter, ifs, 0⟩] scope cp) pos) (tS X p W (setM s.io i (sem s (cLc cf f bk elt tg iter ifs scope)).V0)) := by
  unfold cLc
  split
  case isFalse => exact ⟨fun pins s σ H D I ⟨_, _, _, _, _, q⟩ => False.elim q⟩
  rename_i h
  obtain ⟨hh, h1, h2, h3⟩ := h
  unfold swapB at hs
  simp only [Bool.and_eq_true, Bool.not_eq_true'] at hs
  obtain ⟨⟨⟨s1, s2⟩, s3⟩, s4⟩ := hs
  have s1 : X.env.scope.kind = .function := by
    rw [E.sc]
    split at s1
    · assumption
    · cases s1
  have s2 : X.env.scope.names.lookup x = some .local := by
    rw [E.sc]
    split at s2
    · assumption
    · cases s2
  have hn : ∀ i ∈ (ownOf cf.N scope).map (·.2), i ∉ p.nl := fun i hi => by
    rw [E.nl]
    exact of_decide_eq_true (List.all_eq_true.mp h2 i hi)
  split
  · rename_i j hu
    unfold lcuOf at hu
    split at hu
    case h_2 => cases hu
    rename_i y px
    split at hu
    case isFalse => cases hu
    rename_i hx
    split at hu
    case h_2 => cases hu
    rename_i i' hi'
    split at hu
    case isFalse => cases hu
    cases hu
    obtain ⟨n1, n2, n3⟩ := nmB_of hx.1
    show PS X _ (tS X p W (setM s.io i (lcUG ((ownOf cf.N scope).map (·.2)) j (sem s (cTg cf (inBk scope bk) (some ((ownOf cf.N scope).map (·.2))) tg)).G (sem s (match ifs with
      | [] => .yes
      | [c] => f (inBk scope bk) c
      | _ => .bad)).T (sem s (f (inBk scope bk) elt)).V)))
    cases hft : (sem s (cTg cf (inBk scope bk) (some ((ownOf cf.N scope).map (·.2))) tg)).G with
    | none => exact setM_bad
    | some ft =>
      refine PSmono (ps_setLc (i := i) (g := tGo X p ((ownOf cf.N scope).map (·.2)) ft) (tt := tT X p W0 (sem s (match ifs with
        | [] => .yes
        | [c] => f (inBk scope bk) c
        | _ => .bad)).T) (te := tV X p W0 (sem s (f (inBk scope bk) elt)).V) (E.calm hh) (by rw [E.N]; exact E.nd) (by rw [E.N]; exact ixOf_get hi) s2 (sw_true s1 s2 s3 s4) (pi_list (pe_var (pos := px) (by rw [E.N]; exact ixOf_get hi') (by rw [E.sc]; exact visB_of hx.2) n1 n2)) (by rw [E.N, E.sc]; exact blkOk_by h1)
        (fun s' H C cl fp => cTgO_of (E.blk hh scope s' H C cl fp) hft) (fun s' H C cl fp => ok_ifs O (E.blk hh scope s' H C cl fp) ifs) (fun s' H C cl fp => (O (E.blk hh scope s' H C cl fp) elt).V) (folded_of h3 _)) ?_
      rintro D σ H ⟨lk, L, e, st, g, q⟩
      exact lcU_imp (by rw [E.nl]; exact E.nl0) hn ⟨lk, L, e, st, [], g, store_imp E.io q⟩
  show PS X _ (tS X p W (setM s.io i (lcG ((ownOf cf.N scope).map (·.2)) (sem s (cTg cf (inBk scope bk) (some ((ownOf cf.N scope).map (·.2))) tg)).G (sem s (cIt cf (f bk) bk tg iter)).I (sem s (match ifs with
      | [] => .yes
      | [c] => f (inBk scope bk) c
      | _ => .bad)).T (sem s (f (inBk scope bk) elt)).V)))
  cases hft : (sem s (cTg cf (inBk scope bk) (some ((ownOf cf.N scope).map (·.2))) tg)).G with
  | none => exact lcG_none
  | some ft =>
    refine PSmono (ps_unl (ps_setLc (i := i) (g := tGo X p ((ownOf cf.N scope).map (·.2)) ft) (tt := tT X p W0 (sem s (match ifs with
      | [] => .yes
      | [c] => f (inBk scope bk) c
      | _ => .bad)).T) (te := tV X p W0 (sem s (f (inBk scope bk) elt)).V) (E.calm hh) (by rw [E.N]; exact E.nd) (by rw [E.N]; exact ixOf_get hi) s2 (sw_true s1 s2 s3 s4) (ok_It O E tg iter) (by rw [E.N, E.sc]; exact blkOk_by h1)
      (fun s' H C cl fp => cTgO_of (E.blk hh scope s' H C cl fp) hft) (fun s' H C cl fp => ok_ifs O (E.blk hh scope s' H C cl fp) ifs) (fun s' H C cl fp => (O (E.blk hh scope s' H C cl fp) elt).V) (folded_of h3 _))) ?_
    rintro D σ H ⟨lk, L, e, st, g, q⟩
    exact lc_imp (by rw [E.nl]; exact E.nl0) hn ⟨lk, L, e, st, [], g, store_imp E.io q⟩
theorem ok_set (E : EC cf s bk X p W) (n : Nat) {x : Str} {i : Nat} {ps : Pos} (e : Expr) (hi : ixOf cf.N x = some i) (hl : locB bk x = true) : PS X (.Assign [.Name x ps] e pos) (tS X p W (setM s.io i (sem s (cSet cf n x i ps e bk)).V0)) := by
  obtain ⟨l1, l2⟩ := locB_of hl
  have O : EOk cf s (cE cf n) := ok_E cf s n
  have key : ∀ {v : M D} {e : Expr}, isComp e = false → PE X e (tV0 X p W v) → PS X (.Assign [.Name x ps] e pos) (tS X p W (setM s.io i v)) := fun {v e} hc h =>
    ps_setM E.io (by rw [E.N]; exact E.nd) (by rw [E.N]; exact ixOf_get hi) (by rw [E.sc]; exact l1) h (noComp_of hc _ _ _) (by rw [E.fn, E.sc]; exact l2)
  unfold cSet
  split
  · split
    · rename_i hz
      obtain ⟨rfl, hz⟩ := hz
      exact ok_setLc O E hi hz
    · exact setM_bad
  · split
    · exact key rfl (pe_zero pe_newDT)
    · exact key rfl (pe_zero pe_newDK)
  · split
    · rename_i hc; exact key hc (O E _).V0
    · exact setM_bad
theorem plainSto {o i : Expr} {pos' : Pos} (h : plainIx i = true) (env : PySem.Env) (v : Value) : assign (.Subscript o i pos') env v = (do
      let ov ← holding [v] (eval o env)
      let iv ← holding [v, ov] (eval i env)
      standAt pos'
      holding [v, ov, iv] (setItem ov iv v)
      release [v, ov, iv] []) := by
  cases i <;> first | rfl | skip
  rename_i lo hi stp ps
  cases stp
  · cases h
  · rfl
theorem ok_sto (E : EC cf s bk X p W) (n : Nat) (v o i : Expr) {pos' : Pos} (hc : isComp v = false) (hp : plainIx i = true) : PS X (.Assign [.Subscript o i pos'] v pos) (tS X p W (sem s (cStoH cf n v o i bk)).S) := by
  have O : EOk cf s (cE cf n) := ok_E cf s n
  exact ps_stoM (by have := E.un; omega) (O E v).V0 (O E o).PL0 (O E i).W (by cases v <;> first | rfl | cases hc) (by cases v <;> first | rfl | cases hc) (fun v => plainSto hp _ v)
theorem ok_rai (E : EC cf s bk X p W) (n : Nat) {x : Str} {p1 cp : Pos} (args : List Expr) (hn : nmB x = true) (hg : glB bk.sc x = true) (hs : args.all noStar = true) : PS X (.Raise (some (.Call (.Name x p1) args [] cp)) none pos) (tS X p W (sem s (cRai cf n x args bk)).S) := by
  have O : EOk cf s (cE cf n) := ok_E cf s n
  obtain ⟨n1, n2, n3⟩ := nmB_of hn
  have hg := E.gk hg
  obtain ⟨k, hr, G⟩ := E.gl
  unfold cRai
  split
  · rename_i flds hf
    split
    case isFalse => exact ps_badM
    rename_i h
    cases args with
    | nil => exact absurd rfl h.2.2.2
    | cons a es =>
      obtain ⟨h2, G⟩ := G.exo x flds hf
      have ha := ok_AV O E (a :: es) hs
      rw [List.all_cons, Bool.and_eq_true] at hs
      exact ps_raiM (E.calm h.1) E.tk G (hr h.1) h2 hg h.2.1 h.2.2.1 ha n1 (noStar_of hs.1 es _) (noStar_any hs.2 cp _)
  · split
    · rename_i a
      split
      case isFalse => exact ps_badM
      rename_i h
      exact ps_raiT (E.calm h.1) E.tk (G.exp x h.2) hg (O E a).W n1 (noStar_one (by simpa using hs) _)
    · exact ps_badM
theorem ok_Ss : ∀ (n : Nat) (ss : List Stmt) {X : Cx} {p : Par} {W : WX} {bk : Bk}, SC cf s bk X p W → PSs X ss (tS X p W (sem s (cSs cf bk n ss)).S)
  | 0, _, _, _, _, _, _ => pss_badM
  | n + 1, ss, X, p, W, bk, C => by
    have O : EOk cf s (cE cf n) := ok_E cf s n
    unfold cSs
    cases ss with
    | nil => exact pss_nilM
    | cons s0 rest =>
      dsimp only
      have key : ∀ g : CE, PS X s0 (tS X p W (sem s g).S) → PSs X (s0 :: rest) (tS X p W (sem s (match rest with
        | [] => g
        | _ :: _ => .sq g (cSs cf bk n rest))).S) := fun g h => by
        cases rest with
        | nil => exact pss_oneM h
        | cons s2 r2 => exact pss_consM h (ok_Ss n _ C)
      apply key
      split
      · exact ps_nextM (PSmono (ps_expr pe_str rfl) fun D σ H q => q)
      · split
        · rename_i e _ _ h
          exact ps_to (n := pick cf bk fun bk => cE cf n bk e) (ps_exprM (O (C.pk _) e).V0 (noComp_of h _ _ _))
        · exact ps_badM
      · rename_i e _
        exact ps_to (n := pick cf bk fun bk => cE cf n bk e) (ps_retM (pe_zero (O (C.pk _) e).V))
      · exact ps_retNM
      · exact ps_nextM ps_pass
      · exact ps_brkM
      · exact ps_contM
      · rename_i c s1 s2 _
        exact ps_to (n := pick cf bk fun bk => cE cf n bk c) (ps_ifM (O (C.pk _) c).T (ok_Ss n _ (C.to _)) (ok_Ss n _ (C.to _)))
      · split
        · rename_i x ps e _ h
          split
          · rename_i i hi
            exact ps_to (n := pick cf bk (cSet cf n x i ps e)) (ok_set (C.pk _) n e hi h)
          · exact ps_badM
        · exact ps_badM
      · split
        · rename_i o i _ v _ h
          exact ps_to (n := pick cf bk (cStoH cf n v o i)) (ok_sto (C.pk _) n v o i h.1 h.2)
        · exact ps_badM
      · split
        · rename_i o m _ v _ h
          have E := C.pk (cStfH cf n v o m)
          obtain ⟨k, hr, G⟩ := E.gl
          exact ps_to (n := pick cf bk (cStfH cf n v o m)) (ps_stfM G.ft (O E v).V0 (O E o).PL0 (noComp_of h _ _ _))
        · exact ps_badM
      · split
        · rename_i es _ _ v _ h
          have E := C.pk (cSettH cf n es v)
          refine ps_to (n := pick cf bk (cSettH cf n es v)) ?_
          show PS _ _ (tS _ _ _ (settG (sem s (cA (cTg1 cf _ none) es)).GL (sem s (cE cf n _ v)).V0))
          cases hgl : (sem s (cA (cTg1 cf { bk with nl := pick cf bk (cSettH cf n es v) } none) es)).GL with
          | none => exact ps_badM
          | some gs =>
            obtain ⟨r1, r2, r3⟩ := cTgs_of E hgl
            refine ps_settM (O E v).V0 (tGg_0 (pg_tupG (E.calm h.2.2) r1 r2 r3)) (by cases v <;> first | rfl | cases h.1) (by cases v <;> first | rfl | cases h.2.1)
        · exact ps_badM
      · split
        · rename_i x _ v _ h
          split
          · rename_i i hi
            have E := C.pk (cAugH cf n i v)
            obtain ⟨l1, l2⟩ := locB_of h
            exact ps_to (n := pick cf bk (cAugH cf n i v)) (ps_augM E.io (by rw [E.N]; exact E.nd) (by rw [E.N]; exact ixOf_get hi) (by rw [E.sc]; exact l1) (O E v).W (by rw [E.fn, E.sc]; exact l2))
          · exact ps_badM
        · exact ps_badM
      · split
        · rename_i c body _ h
          exact ps_to (n := pick cf bk fun bk => cE cf n bk c) (ps_whileM _ (C.own h) (O (C.pk _) c).T (ok_Ss n _ (C.to _)))
        · exact ps_badM
      · split
        · rename_i tg iter body pos h
          show PS X _ (tS X p W (frG (sem s (cTg cf bk none tg)).G (sem s (cPick cf bk (cFrH cf n tg iter))).I (sem s (cSs cf bk n body)).S))
          cases hft : (sem s (cTg cf bk none tg)).G with
          | none => exact ps_badM
          | some ft =>
            have E := C.pk (cFrH cf n tg iter)
            refine ps_to (n := pick cf bk (cFrH cf n tg iter)) (ps_forM (C.own h.1) (E.calm h.1) (ok_It O E _ _) (cTg_of (bk := { bk with nl := pick cf bk (cFrH cf n tg iter) }) E ?_) (ok_Ss n _ (C.to _).wu) (folded_of h.2 _))
            exact hft
        · exact ps_badM
      · split
        · rename_i x p1 args cp _ h
          exact ps_to (n := pick cf bk (cRai cf n x args)) (ok_rai (C.pk _) n args h.1 h.2.1 h.2.2)
        · exact ps_badM
      · split
        · rename_i body x np y b₀ suite _ _ h
          split
          · rename_i tab i ht hi
            split
            · exact ps_badM
            rename_i hi0
            have E := C.e0
            obtain ⟨k, hr, G⟩ := E.gl
            obtain ⟨cv, hm, ht⟩ := G.ext x tab ht
            have hg : Gl X x := E.gk h.2.2.1
            refine ps_tryK C.stk C.frm (by rw [E.N]; exact E.nd) (by rw [E.N]; exact ixOf_get hi) (by unfold PySem.Env.kindOf; rw [E.sc]; exact h.2.2.2) ⟨hg, (nmB_of h.2.1).1, .inl hm⟩ E.tk (.inr hi0) ht (fun W pn xe tk own => ok_Ss n body (C.tr pn xe tk own)) (fun a pn => ok_Ss n _ (C.suite a pn))
          · exact ps_badM
        · exact ps_badM
      · split
        · rename_i body x np b₀ suite _ orelse _ h
          split
          · rename_i tab ht
            have E := C.e0
            obtain ⟨k, hr, G⟩ := E.gl
            obtain ⟨cv, hm, ht⟩ := G.ext x tab ht
            have hg : Gl X x := E.gk h.2.2
            exact ps_tryO C.stk C.frm ⟨hg, (nmB_of h.2.1).1, .inl hm⟩ E.tk ht (fun W pn xe tk own => ok_Ss n body (C.tr pn xe tk own)) (fun a pn => ok_Ss n _ (C.suite a pn)) (ok_Ss n _ C)
          · exact ps_badM
        · exact ps_badM
      · exact ps_badM
end
end DG

set_option Elab.async false
set_option linter.all false
set_option maxHeartbeats 4000000
/-! DJe: defs, a law's end. -/
namespace DG
open PySem PySem.Spec PyProof.Rows L2
set_option autoImplicit false
/-! ### a def -/
def cDef (cf : Cf) (st : Stmt) (n : Nat) : CE := cSs cf ⟨defScope st, fun _ => true, [], false⟩ n (defBody st)
structure GOk0 (P : Program) (w : World) (K : PySem.W.Frag) (mg : Str → Option Value) (base : Heap) (k : Nat) (cf : Cf) (s : Sm) : Prop where
  fn : ∀ (i : Nat) (x : Str), cf.fn[i]? = some x → ∃ (n : Nat) (F : List D → FRes), s.fs[i]? = some (n, F) ∧ ∃ fa fd ps, FnOk P w K mg base (L2.CX P w) k fa fd ps (spF K mg n F) ∧ mg x = some (.ref fa) ∧ PySem.W.keepIn K (.ref fa) = true ∧ Binds K fd ps []
  cst : ∀ x c, cf.cs.lookup x = some c → ∃ v u, (match c with | .cN => v = V.non | .cB b => v = V.bl b | .cI i => v = V.int i | .cT z => v = V.str z | _ => False) ∧ mg x = some u ∧ RelV v u
  blt : ∀ x ∈ cf.bl, mg x = none
  cl : ∀ x ∈ cf.cl, ∃ C, mg x = some (.ref C)
  exo : ∀ x flds, cf.exo.lookup x = some flds → 2 ≤ k ∧ ExOwn K mg P w base x flds
  exp : ∀ x ∈ cf.exp, ExPlain K mg x
  ext : ∀ x tab, cf.ext.lookup x = some tab → ∃ cv, mg x = some cv ∧ ExTab K mg cv tab
  tb : TbOk K mg s.tb
  xc : XcOk K mg s.xc
  ft : FtOk K mg s.xt s.it
  ms : ∀ (i : Nat) (q : Str × Str), cf.ms[i]? = some q → ∃ (n : Nat) (F : List D → FRes), s.ms[i]? = some (q.1, q.2, n, F) ∧ ∃ C f fd ps, mg q.2 = some (.ref C) ∧ Cls K C ∧ Meth K C q.1 f ∧ FnOk P w K mg base (L2.CX P w) k f fd ps (spF K mg n F) ∧ Binds K fd ps []
  mkc : ∀ (i : Nat) (x : Str), cf.mkc[i]? = some x → ∃ (n : Nat) (F : List D → FResI), s.mkc[i]? = some (x, n, F) ∧ ∃ k0, k0 + 1 ≤ k ∧ ∃ C f fd ps, Mk K C f ∧ FnOk P w K mg base (L2.CX P w) k0 f fd ps (spI K mg n F) ∧ mg x = some (.ref C) ∧ Binds K fd ps []
theorem scx_of {P : Program} {w : World} {K : PySem.W.Frag} {mg : Str → Option Value} {base : Heap} {k : Nat} {cf : Cf} {s : Sm} {X : Cx} {p : Par} {W : WX} {sc : Scope} (B : BodyCx P w K mg base cf.N sc k X W) (G : GOk0 P w K mg base k cf s) (nd : cf.N.Nodup) (h0 : 0 ∈ cf.nl) (hO : s.io = false → p.O = []) (hio : s.io = false → p.io = none) :
    SC cf s ⟨sc, fun _ => true, [], false⟩ X p W := by
  obtain ⟨e1, e2, e3, e4, e5⟩ := (⟨B.prog, B.w, B.K, B.mg, B.base⟩ : X.prog = P ∧ X.w = w ∧ X.K = K ∧ X.mg = mg ∧ X.base = base)
  subst e1 e2 e3 e4 e5
  exact ⟨fun n hn => ⟨B.N, nd, hn, rfl, B.sc, funext B.fn, fun _ => B.calm, hO, hio, B.tk, by have := B.room.un; omega, k, fun _ => B.room, G.fn, G.cst, G.blt, G.cl, G.exo, G.exp, G.ext, G.tb, G.xc, G.ft, G.ms, G.mkc⟩, fun _ => B.own, B.stk, B.frm, h0⟩
theorem def_ok {P : Program} {w : World} {K : PySem.W.Frag} {mg : Str → Option Value} {base : Heap} {k n : Nat} {fa : Addr} {x qual : Str} {st : Stmt} {fd : FuncData} {ps : List Str} {cf : Cf} {s : Sm} {c : CE} (m : Nat) (hc : cDef cf st m = c) (Fn : Fun K x qual st fa fd) (S : FnScope cf.N ps (defScope st))
    (hn : ps.length = n) (G : GOk0 P w K mg base k cf s) (h0 : 0 ∈ cf.nl) : FnOk P w K mg base (L2.CX P w) (k + 1) fa fd ps (spF K mg n (fnRun cf.N.length (sem s c).S)) := by
  subst hc
  exact fn_body (nl := cf.nl) Fn S hn fun X p W B hO hio hnl => ok_Ss m _ (scx_of B G S.nd h0 (fun _ => hO) (fun _ => hio))
theorem def_okI {P : Program} {w : World} {K : PySem.W.Frag} {mg : Str → Option Value} {base : Heap} {k n : Nat} {fa : Addr} {x qual : Str} {st : Stmt} {fd : FuncData} {ps : List Str} {cf : Cf} {s : Sm} {c : CE} (m : Nat) (hc : cDef cf st m = c) (Fn : Fun K x qual st fa fd) (S : FnScope cf.N ps (defScope st))
    (hn : ps.length = n) (G : GOk0 P w K mg base k cf s) (h0 : 0 ∈ cf.nl) (hi : s.io = true) : FnOk P w K mg base (L2.CX P w) (k + 1) fa fd ps (spI K mg n (fnRunI cf.N.length (sem s c).S)) := by
  subst hc
  exact fn_bodyI (nl := cf.nl) Fn S hn fun X p W B hnl => ok_Ss m _ (scx_of B G S.nd h0 (fun z => by rw [hi] at z; cases z) (fun z => by rw [hi] at z; cases z))
/-! ### what one says of a law's defs -/
def fnScopeB (N P : List Str) (sc : Scope) : Bool := (match sc.kind with | .function => true | _ => false) && !sc.isCoroutine && !sc.isGenerator && decide N.Nodup && decide (N.take P.length = P) &&
  (P.all fun x => match sc.names.lookup x with | some .local => true | some .cell => true | _ => false) && (sc.names.all fun y => match y.2 with | .free => false | _ => true)
theorem fnScope_by {N P : List Str} {sc : Scope} (h : fnScopeB N P sc = true) : FnScope N P sc := by
  unfold fnScopeB at h
  simp only [Bool.and_eq_true, Bool.not_eq_true', decide_eq_true_eq, List.all_eq_true] at h
  obtain ⟨⟨⟨⟨⟨⟨h1, h2⟩, h3⟩, h4⟩, h5⟩, h6⟩, h7⟩ := h
  refine ⟨?_, h2, h3, h4, h5, fun x hx => ?_, fun y hy e => ?_⟩
  · split at h1
    · assumption
    · cases h1
  · have := h6 x hx
    split at this
    · exact .inl ‹_›
    · exact .inr ‹_›
    · cases this
  · have := h7 y hy
    rw [e] at this
    cases this
/-! ### a law's end -/
def noListB (K : PySem.W.Frag) : Bool := K.all fun p => !(p.2.cls == .type "list")
theorem noList_of {a : Addr} {o : Obj} : ∀ {K : PySem.W.Frag}, noListB K = true → K.lookup a = some o → o.cls ≠ .type "list"
  | [], _, l => by cases l
  | (b, p) :: K, h, l => by
    unfold noListB at h
    rw [List.all_cons, Bool.and_eq_true] at h
    rw [List.lookup_cons] at l
    cases q : (a == b) with
    | true =>
      rw [q] at l
      cases l
      intro e
      have h1 := h.1
      rw [e] at h1
      cases h1
    | false =>
      rw [q] at l
      exact noList_of (K := K) h.2 l
def spLaw (n : Nat) : Sp := fun vs H Q _ => ∃ (a : Addr) (ns : List Int), vs = [.ref a] ∧ Rd H a (.lst (ns.map V.int)) ∧ (∀ b x u, H b = some (.frz x u) → Lkb u) ∧ ns.length ≤ n ∧ (∀ z ∈ ns, Builtin.Int.intBits z ≤ 1048576) ∧ ∀ H', Q (.bl true) H'
theorem ints_rp {z : Zo} {H : Hp} : ∀ ns : List Int, Rp z H (.l (ns.map V.int) (ns.map D.int)) []
  | [] => .nil
  | n :: ns => .cons (A := []) (B := []) (.int n) (ints_rp ns)
theorem law_imp {P : Program} {w : World} {K : PySem.W.Frag} {mg : Str → Option Value} {base : Heap} {k n : Nat} {fa : Addr} {fd : FuncData} {ps : List Str} {F : List D → FRes} (f : FnOk P w K mg base (L2.CX P w) k fa fd ps (spF K mg 1 F))
    (h : ∀ ns : List Int, ns.length ≤ n → (∀ z ∈ ns, Builtin.Int.intBits z ≤ 1048576) → F [.lst .ro (ns.map .int)] = .ok (.bl true)) : FnOk P w K mg base (L2.CX P w) k fa fd ps (spLaw n) := by
  refine f.imp fun vs H Q E ⟨a, ns, e, rd, nf, hl, hb, q⟩ => ?_
  subst e
  refine ⟨[.lst .ro (ns.map .int)], fun _ => False, rfl, rfl, fun _ z => z.elim, nf, fun w hw => ?_, ?_⟩
  · rw [List.mem_singleton.mp (show w ∈ [(V.ref a, D.lst .ro (ns.map .int))] from hw)]
    exact Rp.lst (f := .ro) (A := []) rd (rd_dom rd) (ints_rp ns)
  · rw [h ns hl hb]
    intro _ v H' S' B _ r
    cases r
    exact q H'
theorem walk {l : PySem.W.OpenLaw} {n k : Nat} {q : Program} {loose : List Str} {XP : (Str → Option Value) → Heap → Prop} {YP : World → Heap → Prop} {d : DefRec} {K : Params → PySem.W.Frag} {x : Str}
    (hn : l.most = some n) (hn2 : n ≤ sizeLine) (hdf : d.params.defaults = []) (hr : Room k callerA) (hY : ∀ (w : World) (h : Heap), YP w h → (K w.params).In h) (nl : ∀ w : World, noListB (K w.params) = true)
    (F : ∀ (w : World) (mg : Str → Option Value) (fa : Addr) (h : Heap), (K w.params).In h → h.Ns mainGlobals mg → mg d.name = some (.ref fa) →
      ∃ fd : FuncData, (∀ (s : Shared) (u : Value), BindsTo s fd ⟨[u], []⟩ [(x, u)]) ∧ ∀ base : Heap, (K w.params).In base → base.Ns mainGlobals mg → FnOk l.prog w (K w.params) mg base (L2.CX l.prog w) k fa fd [x] (spLaw n)) :
    PySem.W.WalkO q loose XP YP l.row.toRowW d [] (fun f vs => PySem.call f vs) :=
  L2.walk_ofB (K := K) (CX := fun w => L2.CX l.prog w) (sp := fun _ => spLaw n) hn hn2 hdf hr hY F (fun w H a ns hl hb hO hS => by
    refine ⟨a, ns, rfl, ?_, fun b o xs z => ?_, hl, hb, fun _ => rfl⟩
    · rcases hS with h | ⟨o, its, m, h1, h2, _⟩
      · exact h
      · exact absurd h2 (noList_of (nl w) h1)
    · rcases hO b with h | ⟨o', ys, h⟩
      · rw [h] at z; cases z
      · rw [h] at z; cases z; trivial) fun w H s e s' ⟨a, B, H', cls, d, _, _, _, _, _, _, _, h⟩ => h
/-- a def that may be called -/
theorem fn_mk {P : Program} {w : World} {K : PySem.W.Frag} {mg : Str → Option Value} {base : Heap} {k n : Nat} {x : Str} {F : List D → FRes} {fa : Addr} {fd : FuncData} {ps : List Str} (f : FnOk P w K mg base (L2.CX P w) k fa fd ps (spF K mg n F)) (hm : mg x = some (.ref fa))
    (hk : PySem.W.keepIn K (.ref fa) = true) (hb : Binds K fd ps []) : ∃ fa fd ps, FnOk P w K mg base (L2.CX P w) k fa fd ps (spF K mg n F) ∧ mg x = some (.ref fa) ∧ PySem.W.keepIn K (.ref fa) = true ∧ Binds K fd ps [] := ⟨fa, fd, ps, f, hm, hk, hb⟩
end DG

set_option Elab.async false
set_option linter.all false
set_option maxHeartbeats 4000000
/-! DJf: computing with pieces, step by step. -/
namespace DG
open PySem PySem.Spec PyProof.Rows L2
set_option autoImplicit false
def Res.bnd {α β : Type} (r : Res α) (g : α → M β) : Res β := match r with
  | .ok a e => g a e
  | .exc c fs e => .exc c fs e
  | .bad => .bad
section
variable {α β : Type}
@[simp] theorem bnd_ok (a : α) (e : Env) (g : α → M β) : (Res.ok a e).bnd g = g a e := _root_.id rfl
@[simp] theorem bnd_exc (c : Str) (fs : List (Str × D)) (e : Env) (g : α → M β) : (Res.exc c fs e).bnd g = .exc c fs e := _root_.id rfl
@[simp] theorem bnd_bad (g : α → M β) : (Res.bad).bnd g = .bad := _root_.id rfl
@[simp] theorem bind_app (f : M α) (g : α → M β) (e : Env) : (f.bind g) e = (f e).bnd g := by
  unfold M.bind Res.bnd
  cases f e <;> rfl
@[simp] theorem ret_app (a : α) (e : Env) : (M.ret a) e = .ok a e := _root_.id rfl
@[simp] theorem bad_app (e : Env) : (M.bad : M α) e = .bad := _root_.id rfl
@[simp] theorem opt_some (a : α) : M.opt (some a) = .ret a := _root_.id rfl
@[simp] theorem opt_none : M.opt (none : Option α) = .bad := _root_.id rfl
@[simp] theorem iteM_app (c : Prop) [Decidable c] (f g : M α) (e : Env) : (if c then f else g) e = if c then f e else g e := by split <;> rfl
@[simp] theorem ite_bnd (c : Prop) [Decidable c] (x y : Res α) (g : α → M β) : (if c then x else y).bnd g = if c then x.bnd g else y.bnd g := by split <;> rfl
end
@[simp] theorem killAll_nil (e : Env) : killAll [] e = e := _root_.id rfl
@[simp] theorem killAll_cons (v : Nat) (vs : List Nat) (e : Env) : killAll (v :: vs) e = (killAll vs e).set v none := _root_.id rfl
def onB {α : Type} (d : D) (t f : M α) : M α := match d with
  | .bl true => t
  | .bl false => f
  | _ => .bad
@[simp] theorem onB_bl {α : Type} (b : Bool) (t f : M α) : onB (.bl b) t f = if b = true then t else f := by cases b <;> rfl
theorem chainM_eq (o1 o2 : D → D → Option Nw) (f g h : M D) : chainM o1 o2 f g h = f.bind fun a => g.bind fun b => (newM (o1 a b)).bind fun r => onB r (h.bind fun c => newM (o2 b c)) (.ret (.bl false)) := by
  unfold chainM onB
  rfl
theorem andV_eq (f g : M D) : andV f g = f.bind fun d => onB d g (.ret (.bl false)) := rfl
theorem orV_eq (f g : M D) : orV f g = f.bind fun d => onB d (.ret (.bl true)) g := by
  unfold orV
  congr 1
  funext d
  cases d with
  | bl k => cases k <;> rfl
  | _ => rfl
theorem notV_eq (f : M D) : notV f = f.bind fun d => onB d (.ret (.bl false)) (.ret (.bl true)) := by
  unfold notV
  congr 1
  funext d
  cases d with
  | bl k => cases k <;> rfl
  | _ => rfl
@[simp] theorem blM_bl (b : Bool) : blM (.bl b) = .ret b := _root_.id rfl
@[simp] theorem new_int (i : Int) : newM (some (.sc (.int i))) = .ret (.int i) := _root_.id rfl
@[simp] theorem new_bl (i : Bool) : newM (some (.sc (.bl i))) = .ret (.bl i) := _root_.id rfl
@[simp] theorem new_str (i : Str) : newM (some (.sc (.str i))) = .ret (.str i) := _root_.id rfl
@[simp] theorem new_non : newM (some (.sc .non)) = .ret .non := _root_.id rfl
@[simp] theorem new_none : newM none = .bad := _root_.id rfl
@[simp] theorem new_nl (ds : List D) : newM (some (.nl ds)) = if immL ds = true then .ret (.lst .own ds) else .bad := _root_.id rfl
@[simp] theorem new_nt (ds : List D) : newM (some (.nt ds)) = if immL ds = true then .ret (.tup ds) else .bad := _root_.id rfl
@[simp] theorem immM_int (i : Int) : immM (.int i) = .ret (.int i) := _root_.id rfl
@[simp] theorem immM_bl (i : Bool) : immM (.bl i) = .ret (.bl i) := _root_.id rfl
@[simp] theorem immM_str (i : Str) : immM (.str i) = .ret (.str i) := _root_.id rfl
@[simp] theorem immM_non : immM .non = .ret .non := _root_.id rfl
@[simp] theorem immM_ty (s : String) : immM (.ty s) = .ret (.ty s) := _root_.id rfl
@[simp] theorem lend_int (i : Int) : mapF (fun _ => Fl.ro) (.int i) = .int i := _root_.id rfl
@[simp] theorem lend_bl (i : Bool) : mapF (fun _ => Fl.ro) (.bl i) = .bl i := _root_.id rfl
@[simp] theorem lend_str (i : Str) : mapF (fun _ => Fl.ro) (.str i) = .str i := _root_.id rfl
@[simp] theorem lend_non : mapF (fun _ => Fl.ro) .non = .non := _root_.id rfl
@[simp] theorem lend_ty (s : String) : mapF (fun _ => Fl.ro) (.ty s) = .ty s := _root_.id rfl
@[simp] theorem lend_lst (f : Fl) (ds : List D) : mapF (fun _ => Fl.ro) (.lst f ds) = .lst .ro (mapFL (fun _ => Fl.ro) ds) := _root_.id rfl
@[simp] theorem lend_dk (f : Fl) (ks : List (Key × D)) : mapF (fun _ => Fl.ro) (.dk f ks) = .dk .ro (mapFK (fun _ => Fl.ro) ks) := _root_.id rfl
@[simp] theorem lend_dt (f : Fl) (ks : List (List Key × D)) : mapF (fun _ => Fl.ro) (.dt f ks) = .dt .ro (mapFT (fun _ => Fl.ro) ks) := _root_.id rfl
@[simp] theorem lend_tup (ds : List D) : mapF (fun _ => Fl.ro) (.tup ds) = .tup (mapFL (fun _ => Fl.ro) ds) := _root_.id rfl
theorem immL_map {α : Type} (f : α → D) (h : ∀ a, imm (f a) = true) : ∀ l : List α, immL (l.map f) = true
  | [] => rfl
  | a :: l => by
    show allFL _ (f a :: l.map f) = true
    rw [allFL, show allF (fun _ => false) (f a) = true from h a, show allFL (fun _ => false) (l.map f) = true from immL_map f h l]; rfl
theorem mapFL_id (g : Fl → Fl) {ds : List D} (h : immL ds = true) : mapFL g ds = ds := mapFL_imm g ds h
/-! ### loops -/
/-- a loop that only goes on -/
theorem loopM_all {ft : D → Env → Option Env} {body : M Fw} : ∀ (ds : List D) (I : Nat → Env → Prop) (e : Env), I 0 e →
    (∀ (i : Nat) (d : D) (e : Env), ds[i]? = some d → I i e → ∃ e1 e2, ft d e = some e1 ∧ (body e1 = .ok .next e2 ∨ body e1 = .ok .cont e2) ∧ I (i + 1) e2) → ∃ e', loopM ft body ds e = .ok .next e' ∧ I ds.length e'
  | [], I, e, h0, _ => ⟨e, rfl, h0⟩
  | d :: r, I, e, h0, h => by
    obtain ⟨e1, e2, h1, h2, h3⟩ := h 0 d e rfl h0
    obtain ⟨e', k1, k2⟩ := loopM_all r (fun i => I (i + 1)) e2 h3 fun i d e hd hI => h (i + 1) d e hd hI
    refine ⟨e', ?_, k2⟩
    unfold loopM liftT
    rw [bind_app, h1, bnd_ok, bind_app]
    rcases h2 with h2 | h2 <;> (rw [h2, bnd_ok]; exact k1)
/-- a comprehension, item by item -/
theorem lcLoop_map {α : Type} {own : List Nat} {ft : D → Env → Option Env} {ftest : M Bool} {fe : M D} {e : Env} (emb : α → D) (P : α → Bool) (g : α → D) : ∀ (xs : List α) (acc : List D), acc.length + xs.length ≤ sizeLine → killAll own e = e →
    (∀ x ∈ xs, ∃ e1, ft (emb x) e = some e1 ∧ ∃ e2, ftest e1 = .ok (P x) e2 ∧ (if P x = true then ∃ e3, fe e2 = .ok (g x) e3 ∧ killAll own e3 = e else killAll own e2 = e)) →
    lcLoop own ft ftest fe (xs.map emb) acc e = .ok (.lst .own (acc ++ (xs.filter P).map g)) e
  | [], acc, _, _, _ => by unfold lcLoop; simp
  | d :: r, acc, hl, hk, h => by
    obtain ⟨e1, h1, e2, h2, h3⟩ := h d List.mem_cons_self
    have hlen : acc.length + (r.length + 1) ≤ sizeLine := by rw [List.length_cons] at hl; exact hl
    rw [List.map_cons]
    unfold lcLoop liftT noexc
    rw [bind_app, h1, bnd_ok, bind_app, h2]
    rw [bnd_ok]
    cases hp : P d with
    | true =>
      rw [hp, if_pos rfl] at h3
      obtain ⟨e3, h4, h5⟩ := h3
      rw [bind_app, if_pos rfl, bind_app, h4]
      rw [bnd_ok]
      rw [if_pos (by omega)]
      show lcLoop own ft ftest fe (r.map emb) (acc ++ [g d]) (killAll own e3) = _
      rw [h5, lcLoop_map emb P g r (acc ++ [g d]) (by rw [List.length_append]; simp; omega) hk fun d hd => h d (List.mem_cons_of_mem _ hd), List.filter_cons_of_pos hp, List.map_cons, List.append_assoc]
      rfl
    | false =>
      rw [hp, if_neg Bool.false_ne_true] at h3
      rw [bind_app, if_neg Bool.false_ne_true, ret_app, bnd_ok]
      show lcLoop own ft ftest fe (r.map emb) acc (killAll own e2) = _
      rw [h3, lcLoop_map emb P g r acc (by omega) hk fun d hd => h d (List.mem_cons_of_mem _ hd), List.filter_cons_of_neg (by rw [hp]; exact Bool.false_ne_true)]
/-- .. without a test -/
theorem lcLoop_map1 {α : Type} {own : List Nat} {ft : D → Env → Option Env} {fe : M D} {e : Env} (emb : α → D) (g : α → D) (xs : List α) (hl : xs.length ≤ sizeLine) (hk : killAll own e = e)
    (h : ∀ x ∈ xs, ∃ e1, ft (emb x) e = some e1 ∧ ∃ e3, fe e1 = .ok (g x) e3 ∧ killAll own e3 = e) :
    lcLoop own ft (M.ret true) fe (xs.map emb) [] e = .ok (.lst .own (xs.map g)) e := by
  rw [lcLoop_map emb (fun _ => true) g xs [] (by simpa using hl) hk, List.filter_eq_self.mpr (fun _ _ => rfl), List.nil_append]
  intro x hx
  obtain ⟨e1, h1, e3, h2, h3⟩ := h x hx
  exact ⟨e1, h1, e1, rfl, by rw [if_pos rfl]; exact ⟨e3, h2, h3⟩⟩
theorem blsD_map {α : Type} (f : α → Bool) : ∀ l : List α, blsD (l.map fun a => .bl (f a)) = some (l.map f)
  | [] => rfl
  | a :: l => by rw [List.map_cons, List.map_cons]; show (blsD _).map _ = _; rw [blsD_map f l]; rfl
theorem strsD_map {α : Type} (f : α → Str) : ∀ l : List α, strsD (l.map fun a => .str (f a)) = some (l.map f)
  | [] => rfl
  | a :: l => by rw [List.map_cons, List.map_cons]; show (strsD _).map _ = _; rw [strsD_map f l]; rfl
theorem lendL_map {α : Type} (g : Fl → Fl) (f : α → D) (h : ∀ a, imm (f a) = true) (l : List α) : mapFL g (l.map f) = l.map f := mapFL_id g (immL_map f h l)
def lendK (d : D) : M D := .ret (lend d)
def binK (op : D → D → Option Nw) (g : M D) (x : D) : M D := g.bind fun y => newM (op x y)
def binK2 (op : D → D → Option Nw) (x y : D) : M D := newM (op x y)
def chnK3 (o2 : D → D → Option Nw) (h : M D) (y : D) (r : D) : M D := onB r (h.bind (binK2 o2 y)) (.ret (.bl false))
def chnK2 (o1 o2 : D → D → Option Nw) (h : M D) (x y : D) : M D := (newM (o1 x y)).bind (chnK3 o2 h y)
def chnK (o1 o2 : D → D → Option Nw) (g h : M D) (x : D) : M D := g.bind (chnK2 o1 o2 h x)
def notK (d : D) : M D := onB d (.ret (.bl false)) (.ret (.bl true))
def nK (b : Bool) : M Bool := .ret (!b)
def andK (g : M D) (d : D) : M D := onB d g (.ret (.bl false))
def orK (g : M D) (d : D) : M D := onB d (.ret (.bl true)) g
def andTK (g : M Bool) (b : Bool) : M Bool := if b then g else .ret false
def orTK (g : M Bool) (b : Bool) : M Bool := if b then .ret true else g
def iteK {α : Type} (f g : M α) (b : Bool) : M α := if b then f else g
def callK (o : Option (Nat × (List D → FRes))) (ds : List D) : M D := match o with
  | some (n, F) => if ds.length = n then resM (F ds) else .bad
  | none => .bad
def bltD (id : Nat) : List D → Option Nw := match id with
  | 0 => lenE
  | 2 => minE
  | 3 => maxE
  | 4 => allD
  | 5 => anyD
  | 6 => absD
  | 7 => strD
  | 8 => listD
  | 9 => intD
  | 10 => sorD
  | 11 => tupD
  | _ => fun _ => none
def bltK (id : Nat) (ds : List D) : M D := newM (bltD id ds)
def metD (id : Nat) : D → List D → Option Nw := match id with
  | 0 => joinD
  | 1 => splitD
  | 2 => startsD
  | _ => fun _ _ => none
def metK2 (id : Nat) (x y : D) : M D := newM (metD id x [y])
def metK (id : Nat) (g : M D) (x : D) : M D := if isStr x then g.bind (metK2 id x) else .bad
def lstK (ds : List D) : M D := if ds.length ≤ sizeLine then .ret (.lst .own ds) else .bad
def tupK (ds : List D) : M D := if ds.length ≤ sizeLine then .ret (.tup ds) else .bad
def sliK3 (d : D) (lo hi : Option Int) : M D := newM (sliceD lo hi d)
def sliK2 (h : M (Option Int)) (d : D) (lo : Option Int) : M D := h.bind (sliK3 d lo)
def sliK (l h : M (Option Int)) (d : D) : M D := l.bind (sliK2 h d)
def subK2 (a b : D) : M D := .opt (ixD a b)
def subK (g : M D) (a : D) : M D := g.bind (subK2 a)
def consK2 {α : Type} (d : α) (ds : List α) : M (List α) := .ret (d :: ds)
def consK {α : Type} (g : M (List α)) (d : α) : M (List α) := g.bind (consK2 d)
def lcK (own : List Nat) (ft : D → Env → Option Env) (t : M Bool) (v : M D) (ds : List D) : M D := fun e => lcLoop own ft t v ds [] (killAll own e)
def dispK (kvs : List (Key × D)) : M D := if kvs.length ≤ 15 ∧ (kvs.map (·.1)).Nodup then .ret (.dk .own kvs) else .bad
def exK (_ : D) : M Fw := .ret .next
def retK (d : D) : M Fw := .ret (.ret d)
def setK (io : Bool) (i : Nat) (d : D) : M Fw := fun e => if i < e.length ∧ (io = false ∨ i ≠ 0) then .ok .next (e.set i (some d)) else .bad
def calhK (o : Option (Nat × (List D → FRes))) (ds : List D) : M D := match o with
  | some (n, F) => if ds.length = n ∧ allFL noOwn ds = true then resM (F (mapFL pasF ds)) else .bad
  | none => .bad
def exvK (c : Str) (flds : List Str) (ds : List D) : M D := if ds.length = flds.length then .ret (.exc .sh c (flds.zip ds).reverse) else .bad
def isiK (tb : Tab) (xc : List Str) (ds : List D) : M D := newM (isiT tb xc ds)
def lmK2 (op : OpL) (q : Nat × Pth) (as : List D) : M D := fun e => match atP q e with
  | some (.lst .own ds) => (match op ds as with
    | some (ds', d) => .ok d (setAt q (.lst .own ds') e)
    | none => .bad)
  | _ => .bad
def lmK (op : OpL) (ga : M (List D)) (q : Nat × Pth) : M D := fun e => match atP q e with
  | some (.lst _ _) => (ga.bind (lmK2 op q)) e
  | _ => .bad
def sdK3 (q : Nat × Pth) (k d : D) : M (Nat × Pth) := fun e => match atP q e, keyD k with
  | some (.dk .own ks), some kk => if ks.length < sizeLine then (if (getA ks kk).isSome then .ok (q.1, q.2 ++ [.key kk]) e else .ok (q.1, q.2 ++ [.key kk]) (setAt q (.dk .own (setA ks kk d)) e)) else .bad
  | _, _ => .bad
def sdK2 (q : Nat × Pth) (fx : M D) (k : D) : M (Nat × Pth) := fx.bind (sdK3 q k)
def sdK (fk fx : M D) (q : Nat × Pth) : M (Nat × Pth) := fun e => match atP q e with
  | some (.dk _ _) => (fk.bind (sdK2 q fx)) e
  | _ => .bad
def get1K2 (d k : D) : M D := .opt (getD2 d k .non)
def get1K (fk : M D) (d : D) : M D := if isDk d then fk.bind (get1K2 d) else .bad
def get2K3 (d k x : D) : M D := .opt (getD2 d k x)
def get2K2 (fx : M D) (d k : D) : M D := fx.bind (get2K3 d k)
def get2K (fk fx : M D) (d : D) : M D := if isDk d then fk.bind (get2K2 fx d) else .bad
def stpK (j : Int) (d : D) : M D := newM (stpD j d)
def fldK (xt it : FTab) (n : Str) (d : D) : M D := .opt (fldD xt it n d)
def stoK3 (v : D) (q : Nat × Pth) (k : D) : M Fw := fun e => optE (stoE q k v e)
def stoK2 (fk : M D) (v : D) (q : Nat × Pth) : M Fw := fk.bind (stoK3 v q)
def stoK (fp : M (Nat × Pth)) (fk : M D) (v : D) : M Fw := fp.bind (stoK2 fk v)
def raiK (c : Str) (flds : List Str) (ds : List D) : M Fw := fun e => if ds.length = flds.length then .exc c (flds.zip ds).reverse e else .bad
def raitK (c : Str) (_ : D) : M Fw := fun e => .exc c [] e
def subPK (q : Nat × Pth) (k : D) : M (Nat × Pth) := fun e => match atP q e with
  | some d => (match stpOf d k with
    | some s => if (getS d s).isSome then .ok (q.1, q.2 ++ [s]) e else .bad
    | none => .bad)
  | none => .bad
def subPK1 (g : M D) (q : Nat × Pth) : M (Nat × Pth) := g.bind (subPK q)
def shK (io : Bool) (q : Nat × Pth) : M D := fun e => match atP q e with
  | some d => if allF noLk d then .ok (share io d) (setAt q (share io d) e) else .bad
  | none => .bad
def Res.vh (r : Res D) (h : M D) (e : Env) : Res D := match r with
  | .ok d e' => if imm d = true then .ok d e' else h e
  | .exc c fs e' => .exc c fs e'
  | .bad => h e
@[simp] theorem vh_ok (d : D) (e' e : Env) (h : M D) : (Res.ok d e').vh h e = if imm d = true then .ok d e' else h e := _root_.id rfl
@[simp] theorem vh_exc (c : Str) (fs : List (Str × D)) (e' e : Env) (h : M D) : (Res.exc c fs e').vh h e = .exc c fs e' := _root_.id rfl
@[simp] theorem vh_bad (e : Env) (h : M D) : (Res.bad).vh h e = h e := _root_.id rfl
theorem vhM_app (w h : M D) (e : Env) : vhM w h e = (w e).vh h e := by
  unfold vhM Res.vh
  cases w e <;> rfl
def Res.ip (r : Res D) (a b : Res (List D)) : Res (List D) := match r with
  | .ok (.dk _ _) _ => a
  | _ => b
@[simp] theorem ip_dk (f : Fl) (ks : List (Key × D)) (e : Env) (a b : Res (List D)) : (Res.ok (.dk f ks) e).ip a b = a := _root_.id rfl
@[simp] theorem ip_lst (f : Fl) (ds : List D) (e : Env) (a b : Res (List D)) : (Res.ok (.lst f ds) e).ip a b = b := _root_.id rfl
@[simp] theorem ip_str (x : Str) (e : Env) (a b : Res (List D)) : (Res.ok (.str x) e).ip a b = b := _root_.id rfl
@[simp] theorem ip_bad (a b : Res (List D)) : (Res.bad).ip a b = b := _root_.id rfl
theorem itP_app (io : Bool) (w v : M D) (fp : M (Nat × Pth)) (e : Env) : itP io w fp v e = (w e).ip (keysP io fp e) ((v e).bnd (itL io)) := by
  unfold itP Res.ip
  rw [bind_app]
  all_goals (cases w e with
    | ok d e' => cases d <;> rfl
    | _ => rfl)
def Res.sq (r : Res Fw) (g : M Fw) : Res Fw := match r with
  | .ok .next e => g e
  | .ok .brk e => .ok .brk e
  | .ok .cont e => .ok .cont e
  | .ok (.ret d) e => .ok (.ret d) e
  | .exc c fs e => .exc c fs e
  | .bad => .bad
@[simp] theorem sq_next (e : Env) (g : M Fw) : (Res.ok .next e).sq g = g e := _root_.id rfl
@[simp] theorem sq_brk (e : Env) (g : M Fw) : (Res.ok .brk e).sq g = .ok .brk e := _root_.id rfl
@[simp] theorem sq_cont (e : Env) (g : M Fw) : (Res.ok .cont e).sq g = .ok .cont e := _root_.id rfl
@[simp] theorem sq_ret (d : D) (e : Env) (g : M Fw) : (Res.ok (.ret d) e).sq g = .ok (.ret d) e := _root_.id rfl
@[simp] theorem sq_exc (c : Str) (fs : List (Str × D)) (e : Env) (g : M Fw) : (Res.exc c fs e).sq g = .exc c fs e := _root_.id rfl
@[simp] theorem sq_bad (g : M Fw) : (Res.bad).sq g = .bad := _root_.id rfl
@[simp] theorem ite_sq (c : Prop) [Decidable c] (x y : Res Fw) (g : M Fw) : (if c then x else y).sq g = if c then x.sq g else y.sq g := by split <;> rfl
/-! ### continuations at values -/
section
variable (e : Env)
@[simp] theorem lendK_app (d : D) : lendK d e = .ok (lend d) e := _root_.id rfl
@[simp] theorem binK_app (op : D → D → Option Nw) (g : M D) (x : D) : binK op g x e = (g e).bnd (binK2 op x) := bind_app g (binK2 op x) e
@[simp] theorem binK2_app (op : D → D → Option Nw) (x y : D) : binK2 op x y e = newM (op x y) e := _root_.id rfl
@[simp] theorem chnK_app (o1 o2 : D → D → Option Nw) (g h : M D) (x : D) : chnK o1 o2 g h x e = (g e).bnd (chnK2 o1 o2 h x) := bind_app ..
@[simp] theorem chnK2_app (o1 o2 : D → D → Option Nw) (h : M D) (x y : D) : chnK2 o1 o2 h x y e = (newM (o1 x y) e).bnd (chnK3 o2 h y) := bind_app ..
@[simp] theorem chnK3_bl (o2 : D → D → Option Nw) (h : M D) (y : D) (b : Bool) : chnK3 o2 h y (.bl b) e = if b = true then (h e).bnd (binK2 o2 y) else .ok (.bl false) e := by
  unfold chnK3
  rw [onB_bl, iteM_app, bind_app]; rfl
@[simp] theorem notK_bl (b : Bool) : notK (.bl b) e = .ok (.bl (!b)) e := by cases b <;> rfl
@[simp] theorem nK_app (b : Bool) : nK b e = .ok (!b) e := _root_.id rfl
@[simp] theorem andK_bl (g : M D) (b : Bool) : andK g (.bl b) e = if b = true then g e else .ok (.bl false) e := by cases b <;> rfl
@[simp] theorem orK_bl (g : M D) (b : Bool) : orK g (.bl b) e = if b = true then .ok (.bl true) e else g e := by cases b <;> rfl
@[simp] theorem andTK_app (g : M Bool) (b : Bool) : andTK g b e = if b = true then g e else .ok false e := by cases b <;> rfl
@[simp] theorem orTK_app (g : M Bool) (b : Bool) : orTK g b e = if b = true then .ok true e else g e := by cases b <;> rfl
@[simp] theorem iteK_app {α : Type} (f g : M α) (b : Bool) : iteK f g b e = if b = true then f e else g e := by cases b <;> rfl
@[simp] theorem callK_app (n : Nat) (F : List D → FRes) (ds : List D) : callK (some (n, F)) ds e = if ds.length = n then resM (F ds) e else .bad := iteM_app _ _ _ e
@[simp] theorem resM_ok (d : D) : resM (.ok d) e = .ok d e := _root_.id rfl
@[simp] theorem resM_exc (c : Str) (fs : List (Str × D)) : resM (.exc c fs) e = .exc c fs e := _root_.id rfl
@[simp] theorem bltK_app (id : Nat) (ds : List D) : bltK id ds e = newM (bltD id ds) e := _root_.id rfl
@[simp] theorem metK_app (id : Nat) (g : M D) (x : Str) : metK id g (.str x) e = (g e).bnd (metK2 id (.str x)) := bind_app ..
@[simp] theorem metK2_app (id : Nat) (x y : D) : metK2 id x y e = newM (metD id x [y]) e := _root_.id rfl
@[simp] theorem lstK_app (ds : List D) : lstK ds e = if ds.length ≤ sizeLine then .ok (.lst .own ds) e else .bad := iteM_app _ _ _ e
@[simp] theorem tupK_app (ds : List D) : tupK ds e = if ds.length ≤ sizeLine then .ok (.tup ds) e else .bad := iteM_app _ _ _ e
@[simp] theorem sliK_app (l h : M (Option Int)) (d : D) : sliK l h d e = (l e).bnd (sliK2 h d) := bind_app ..
@[simp] theorem sliK2_app (h : M (Option Int)) (d : D) (lo : Option Int) : sliK2 h d lo e = (h e).bnd (sliK3 d lo) := bind_app ..
@[simp] theorem sliK3_app (d : D) (lo hi : Option Int) : sliK3 d lo hi e = newM (sliceD lo hi d) e := _root_.id rfl
@[simp] theorem subK_app (g : M D) (a : D) : subK g a e = (g e).bnd (subK2 a) := bind_app ..
@[simp] theorem subK2_app (a b : D) : subK2 a b e = M.opt (ixD a b) e := _root_.id rfl
@[simp] theorem consK_app {α : Type} (g : M (List α)) (d : α) : consK g d e = (g e).bnd (consK2 d) := bind_app ..
@[simp] theorem consK2_app {α : Type} (d : α) (ds : List α) : consK2 d ds e = .ok (d :: ds) e := _root_.id rfl
@[simp] theorem exK_app (d : D) : exK d e = .ok .next e := _root_.id rfl
@[simp] theorem retK_app (d : D) : retK d e = .ok (.ret d) e := _root_.id rfl
@[simp] theorem setK_app (i : Nat) (d : D) : setK false i d e = if i < e.length then .ok .next (e.set i (some d)) else .bad := by unfold setK; simp
@[simp] theorem setK_appI (i : Nat) (d : D) : setK true i d e = if i < e.length ∧ i ≠ 0 then .ok .next (e.set i (some d)) else .bad := by unfold setK; simp
@[simp] theorem calhK_app (n : Nat) (F : List D → FRes) (ds : List D) : calhK (some (n, F)) ds e = if ds.length = n ∧ allFL noOwn ds = true then resM (F (mapFL pasF ds)) e else .bad := iteM_app _ _ _ e
@[simp] theorem exvK_app (c : Str) (flds : List Str) (ds : List D) : exvK c flds ds e = if ds.length = flds.length then .ok (.exc .sh c (flds.zip ds).reverse) e else .bad := iteM_app _ _ _ e
@[simp] theorem isiK_app (tb : Tab) (xc : List Str) (ds : List D) : isiK tb xc ds e = newM (isiT tb xc ds) e := _root_.id rfl
theorem lmK_app {op : OpL} {g : M (List D)} {q : Nat × Pth} {f : Fl} {ds : List D} {e : Env} (h : atP q e = some (.lst f ds)) : lmK op g q e = (g e).bnd (lmK2 op q) := by
  unfold lmK
  rw [h]
  exact bind_app ..
theorem lmK2_app {op : OpL} {q : Nat × Pth} {ds as : List D} {e : Env} (h : atP q e = some (.lst .own ds)) : lmK2 op q as e = match op ds as with | some (ds', d) => .ok d (setAt q (.lst .own ds') e) | none => .bad := by
  unfold lmK2
  rw [h]
theorem sdK_app {fk fx : M D} {q : Nat × Pth} {f : Fl} {ks : List (Key × D)} {e : Env} (h : atP q e = some (.dk f ks)) : sdK fk fx q e = (fk e).bnd (sdK2 q fx) := by
  unfold sdK
  rw [h]
  exact bind_app ..
@[simp] theorem sdK2_app (q : Nat × Pth) (fx : M D) (k : D) : sdK2 q fx k e = (fx e).bnd (sdK3 q k) := bind_app ..
@[simp] theorem get1K_app (fk : M D) (f : Fl) (ks : List (Key × D)) : get1K fk (.dk f ks) e = (fk e).bnd (get1K2 (.dk f ks)) := bind_app ..
@[simp] theorem get1K2_app (d k : D) : get1K2 d k e = M.opt (getD2 d k .non) e := _root_.id rfl
@[simp] theorem get2K_app (fk fx : M D) (f : Fl) (ks : List (Key × D)) : get2K fk fx (.dk f ks) e = (fk e).bnd (get2K2 fx (.dk f ks)) := bind_app ..
@[simp] theorem get2K2_app (fx : M D) (d k : D) : get2K2 fx d k e = (fx e).bnd (get2K3 d k) := bind_app ..
@[simp] theorem get2K3_app (d k x : D) : get2K3 d k x e = M.opt (getD2 d k x) e := _root_.id rfl
@[simp] theorem stpK_app (j : Int) (d : D) : stpK j d e = newM (stpD j d) e := _root_.id rfl
@[simp] theorem fldK_app (xt it : FTab) (n : Str) (d : D) : fldK xt it n d e = M.opt (fldD xt it n d) e := _root_.id rfl
@[simp] theorem stoK_app (fp : M (Nat × Pth)) (fk : M D) (v : D) : stoK fp fk v e = (fp e).bnd (stoK2 fk v) := bind_app ..
@[simp] theorem stoK2_app (fk : M D) (v : D) (q : Nat × Pth) : stoK2 fk v q e = (fk e).bnd (stoK3 v q) := bind_app ..
@[simp] theorem stoK3_app (v : D) (q : Nat × Pth) (k : D) : stoK3 v q k e = optE (stoE q k v e) := _root_.id rfl
@[simp] theorem optE_some (e' : Env) : optE (some e') = .ok .next e' := _root_.id rfl
@[simp] theorem raiK_app (c : Str) (flds : List Str) (ds : List D) : raiK c flds ds e = if ds.length = flds.length then .exc c (flds.zip ds).reverse e else .bad := _root_.id rfl
@[simp] theorem raitK_app (c : Str) (d : D) : raitK c d e = .exc c [] e := _root_.id rfl
@[simp] theorem subPK1_app (g : M D) (q : Nat × Pth) : subPK1 g q e = (g e).bnd (subPK q) := bind_app ..
@[simp] theorem intM_int (i : Int) : intM (.int i) e = .ok (some i) e := _root_.id rfl
@[simp] theorem rng1_int (j : Int) : rng1 (.int j) e = if rngOk j then .ok (rng 0 j.toNat) e else .bad := iteM_app _ _ _ e
@[simp] theorem slotM_at {i : Nat} {d : D} {e : Env} (h : e[i]? = some (some d)) : slotM i e = .ok (lend d) e := by unfold slotM; rw [h]
@[simp] theorem slotC_at {i : Nat} {d : D} {e : Env} (h : e[i]? = some (some d)) : slotC i e = if allF noOwn d = true then .ok d e else .ok d (e.set i none) := by unfold slotC; rw [h]
@[simp] theorem slotP1_at {i : Nat} {d : D} {e : Env} (h : e[i]? = some (some d)) : slotP1 i e = .ok (i, []) e := by unfold slotP1 slotP; rw [h]; simp
@[simp] theorem slotS_at {i : Nat} {d : D} {e : Env} (h : e[i]? = some (some d)) : slotS false i e = if allF noLk d = true then .ok (share false d) (e.set i (some (share false d))) else .bad := by unfold slotS; rw [h]
end
@[simp] theorem itL_str (x : Str) (e : Env) : itL false (.str x) e = .ok (chars x) e := _root_.id rfl
/-! ### pieces -/
section
variable (s : Sm) (e : Env) (a b c t r k v tg it ts el lo hi o : CE) (op : Operator) (cp o1 o2 : CmpOp) (i n : Nat) (x : Str) (flds : List Str) (j : Int) (own : List Nat) (bx : Bool) (tx : String)
theorem bnd_bind {α β : Type} (f : M α) (g : α → M β) (e : Env) : (f.bind g) e = (f e).bnd g := bind_app f g e
theorem mkV_W (io : Bool) (v : M D) : (mkV io v).W e = (v e).bnd lendK := bind_app v lendK e
theorem mkV_T (io : Bool) (v : M D) : (mkV io v).T e = ((mkV io v).W e).bnd truM := bind_app (v.bind lendK) truM e
theorem mkV_I (io : Bool) (v : M D) : (mkV io v).I e = (v e).bnd (itL io) := bind_app ..
theorem mkT_W (io : Bool) (v : M D) (t : M Bool) : (mkT io v t).W e = (v e).bnd lendK := bind_app v lendK e
theorem mkW_V (io : Bool) (v : M D) : (mkW io v).V e = (v e).bnd immM := bind_app ..
theorem mkW_T (io : Bool) (v : M D) : (mkW io v).T e = (v e).bnd truM := bind_app ..
theorem mkW_I (io : Bool) (v : M D) : (mkW io v).I e = ((mkW io v).V e).bnd (itL io) := bind_app (v.bind immM) (itL io) e
theorem mkP_V (io : Bool) (w h : M D) (pl : M (Nat × Pth)) : (mkP io w h pl).V e = (w e).vh h e := vhM_app ..
theorem mkP_T (io : Bool) (w h : M D) (pl : M (Nat × Pth)) : (mkP io w h pl).T e = (w e).bnd truM := bind_app ..
theorem mkP_I (io : Bool) (w h : M D) (pl : M (Nat × Pth)) : (mkP io w h pl).I e = (w e).ip (keysP io pl e) (((mkP io w h pl).V e).bnd (itL io)) := itP_app ..
@[simp] theorem a_binW : (sem s (.bin op a b)).W e = ((sem s (.bin op a b)).V e).bnd lendK := mkV_W ..
@[simp] theorem a_binT : (sem s (.bin op a b)).T e = ((sem s (.bin op a b)).W e).bnd truM := mkV_T ..
@[simp] theorem a_binI : (sem s (.bin op a b)).I e = ((sem s (.bin op a b)).V e).bnd (itL s.io) := mkV_I ..
@[simp] theorem a_binV0 : (sem s (.bin op a b)).V0 e = (sem s (.bin op a b)).V e := _root_.id rfl
@[simp] theorem a_binH : (sem s (.bin op a b)).H e = (sem s (.bin op a b)).V e := _root_.id rfl
@[simp] theorem a_callW : (sem s (.call n a)).W e = ((sem s (.call n a)).V e).bnd lendK := mkV_W ..
@[simp] theorem a_callT : (sem s (.call n a)).T e = ((sem s (.call n a)).W e).bnd truM := mkV_T ..
@[simp] theorem a_callI : (sem s (.call n a)).I e = ((sem s (.call n a)).V e).bnd (itL s.io) := mkV_I ..
@[simp] theorem a_callV0 : (sem s (.call n a)).V0 e = (sem s (.call n a)).V e := _root_.id rfl
@[simp] theorem a_callH : (sem s (.call n a)).H e = (sem s (.call n a)).V e := _root_.id rfl
@[simp] theorem a_calhW : (sem s (.calh n a)).W e = ((sem s (.calh n a)).V e).bnd lendK := mkV_W ..
@[simp] theorem a_calhT : (sem s (.calh n a)).T e = ((sem s (.calh n a)).W e).bnd truM := mkV_T ..
@[simp] theorem a_calhI : (sem s (.calh n a)).I e = ((sem s (.calh n a)).V e).bnd (itL s.io) := mkV_I ..
@[simp] theorem a_calhV0 : (sem s (.calh n a)).V0 e = (sem s (.calh n a)).V e := _root_.id rfl
@[simp] theorem a_calhH : (sem s (.calh n a)).H e = (sem s (.calh n a)).V e := _root_.id rfl
@[simp] theorem a_exvW : (sem s (.exv x flds a)).W e = ((sem s (.exv x flds a)).V e).bnd lendK := mkV_W ..
@[simp] theorem a_exvT : (sem s (.exv x flds a)).T e = ((sem s (.exv x flds a)).W e).bnd truM := mkV_T ..
@[simp] theorem a_exvI : (sem s (.exv x flds a)).I e = ((sem s (.exv x flds a)).V e).bnd (itL s.io) := mkV_I ..
@[simp] theorem a_exvV0 : (sem s (.exv x flds a)).V0 e = (sem s (.exv x flds a)).V e := _root_.id rfl
@[simp] theorem a_exvH : (sem s (.exv x flds a)).H e = (sem s (.exv x flds a)).V e := _root_.id rfl
@[simp] theorem a_bltW : (sem s (.blt n a)).W e = ((sem s (.blt n a)).V e).bnd lendK := mkV_W ..
@[simp] theorem a_bltT : (sem s (.blt n a)).T e = ((sem s (.blt n a)).W e).bnd truM := mkV_T ..
@[simp] theorem a_bltI : (sem s (.blt n a)).I e = ((sem s (.blt n a)).V e).bnd (itL s.io) := mkV_I ..
@[simp] theorem a_bltV0 : (sem s (.blt n a)).V0 e = (sem s (.blt n a)).V e := _root_.id rfl
@[simp] theorem a_bltH : (sem s (.blt n a)).H e = (sem s (.blt n a)).V e := _root_.id rfl
@[simp] theorem a_isiW : (sem s (.isi a)).W e = ((sem s (.isi a)).V e).bnd lendK := mkV_W ..
@[simp] theorem a_isiT : (sem s (.isi a)).T e = ((sem s (.isi a)).W e).bnd truM := mkV_T ..
@[simp] theorem a_isiI : (sem s (.isi a)).I e = ((sem s (.isi a)).V e).bnd (itL s.io) := mkV_I ..
@[simp] theorem a_isiV0 : (sem s (.isi a)).V0 e = (sem s (.isi a)).V e := _root_.id rfl
@[simp] theorem a_isiH : (sem s (.isi a)).H e = (sem s (.isi a)).V e := _root_.id rfl
@[simp] theorem a_metW : (sem s (.met n o a)).W e = ((sem s (.met n o a)).V e).bnd lendK := mkV_W ..
@[simp] theorem a_metT : (sem s (.met n o a)).T e = ((sem s (.met n o a)).W e).bnd truM := mkV_T ..
@[simp] theorem a_metI : (sem s (.met n o a)).I e = ((sem s (.met n o a)).V e).bnd (itL s.io) := mkV_I ..
@[simp] theorem a_metV0 : (sem s (.met n o a)).V0 e = (sem s (.met n o a)).V e := _root_.id rfl
@[simp] theorem a_metH : (sem s (.met n o a)).H e = (sem s (.met n o a)).V e := _root_.id rfl
@[simp] theorem a_lstW : (sem s (.lst a)).W e = ((sem s (.lst a)).V e).bnd lendK := mkV_W ..
@[simp] theorem a_lstT : (sem s (.lst a)).T e = ((sem s (.lst a)).W e).bnd truM := mkV_T ..
@[simp] theorem a_lstI : (sem s (.lst a)).I e = ((sem s (.lst a)).V e).bnd (itL s.io) := mkV_I ..
@[simp] theorem a_lstV0 : (sem s (.lst a)).V0 e = (sem s (.lst a)).V e := _root_.id rfl
@[simp] theorem a_lstH : (sem s (.lst a)).H e = (sem s (.lst a)).V e := _root_.id rfl
@[simp] theorem a_tupW : (sem s (.tup a)).W e = ((sem s (.tup a)).V e).bnd lendK := mkV_W ..
@[simp] theorem a_tupT : (sem s (.tup a)).T e = ((sem s (.tup a)).W e).bnd truM := mkV_T ..
@[simp] theorem a_tupI : (sem s (.tup a)).I e = ((sem s (.tup a)).V e).bnd (itL s.io) := mkV_I ..
@[simp] theorem a_tupV0 : (sem s (.tup a)).V0 e = (sem s (.tup a)).V e := _root_.id rfl
@[simp] theorem a_tupH : (sem s (.tup a)).H e = (sem s (.tup a)).V e := _root_.id rfl
@[simp] theorem a_sliW : (sem s (.sli a lo hi)).W e = ((sem s (.sli a lo hi)).V e).bnd lendK := mkV_W ..
@[simp] theorem a_sliT : (sem s (.sli a lo hi)).T e = ((sem s (.sli a lo hi)).W e).bnd truM := mkV_T ..
@[simp] theorem a_sliI : (sem s (.sli a lo hi)).I e = ((sem s (.sli a lo hi)).V e).bnd (itL s.io) := mkV_I ..
@[simp] theorem a_sliV0 : (sem s (.sli a lo hi)).V0 e = (sem s (.sli a lo hi)).V e := _root_.id rfl
@[simp] theorem a_sliH : (sem s (.sli a lo hi)).H e = (sem s (.sli a lo hi)).V e := _root_.id rfl
@[simp] theorem a_stpW : (sem s (.stp j a)).W e = ((sem s (.stp j a)).V e).bnd lendK := mkV_W ..
@[simp] theorem a_stpT : (sem s (.stp j a)).T e = ((sem s (.stp j a)).W e).bnd truM := mkV_T ..
@[simp] theorem a_stpI : (sem s (.stp j a)).I e = ((sem s (.stp j a)).V e).bnd (itL s.io) := mkV_I ..
@[simp] theorem a_stpV0 : (sem s (.stp j a)).V0 e = (sem s (.stp j a)).V e := _root_.id rfl
@[simp] theorem a_stpH : (sem s (.stp j a)).H e = (sem s (.stp j a)).V e := _root_.id rfl
@[simp] theorem a_lcW : (sem s (.lc own tg it ts el)).W e = ((sem s (.lc own tg it ts el)).V e).bnd lendK := mkV_W ..
@[simp] theorem a_lcT : (sem s (.lc own tg it ts el)).T e = ((sem s (.lc own tg it ts el)).W e).bnd truM := mkV_T ..
@[simp] theorem a_lcI : (sem s (.lc own tg it ts el)).I e = ((sem s (.lc own tg it ts el)).V e).bnd (itL s.io) := mkV_I ..
@[simp] theorem a_lcV0 : (sem s (.lc own tg it ts el)).V0 e = (sem s (.lc own tg it ts el)).V e := _root_.id rfl
@[simp] theorem a_lcH : (sem s (.lc own tg it ts el)).H e = (sem s (.lc own tg it ts el)).V e := _root_.id rfl
@[simp] theorem a_dnewW : (sem s (.dnew)).W e = ((sem s (.dnew)).V e).bnd lendK := mkV_W ..
@[simp] theorem a_dnewT : (sem s (.dnew)).T e = ((sem s (.dnew)).W e).bnd truM := mkV_T ..
@[simp] theorem a_dnewI : (sem s (.dnew)).I e = ((sem s (.dnew)).V e).bnd (itL s.io) := mkV_I ..
@[simp] theorem a_dnewV0 : (sem s (.dnew)).V0 e = (sem s (.dnew)).V e := _root_.id rfl
@[simp] theorem a_dnewH : (sem s (.dnew)).H e = (sem s (.dnew)).V e := _root_.id rfl
@[simp] theorem a_dnwtW : (sem s (.dnwt)).W e = ((sem s (.dnwt)).V e).bnd lendK := mkV_W ..
@[simp] theorem a_dnwtT : (sem s (.dnwt)).T e = ((sem s (.dnwt)).W e).bnd truM := mkV_T ..
@[simp] theorem a_dnwtI : (sem s (.dnwt)).I e = ((sem s (.dnwt)).V e).bnd (itL s.io) := mkV_I ..
@[simp] theorem a_dnwtV0 : (sem s (.dnwt)).V0 e = (sem s (.dnwt)).V e := _root_.id rfl
@[simp] theorem a_dnwtH : (sem s (.dnwt)).H e = (sem s (.dnwt)).V e := _root_.id rfl
@[simp] theorem a_dispW : (sem s (.disp a)).W e = ((sem s (.disp a)).V e).bnd lendK := mkV_W ..
@[simp] theorem a_dispT : (sem s (.disp a)).T e = ((sem s (.disp a)).W e).bnd truM := mkV_T ..
@[simp] theorem a_dispI : (sem s (.disp a)).I e = ((sem s (.disp a)).V e).bnd (itL s.io) := mkV_I ..
@[simp] theorem a_dispV0 : (sem s (.disp a)).V0 e = (sem s (.disp a)).V e := _root_.id rfl
@[simp] theorem a_dispH : (sem s (.disp a)).H e = (sem s (.disp a)).V e := _root_.id rfl
@[simp] theorem a_negW : (sem s (.neg a)).W e = ((sem s (.neg a)).V e).bnd lendK := mkV_W ..
@[simp] theorem a_negT : (sem s (.neg a)).T e = ((sem s (.neg a)).W e).bnd truM := mkV_T ..
@[simp] theorem a_negI : (sem s (.neg a)).I e = ((sem s (.neg a)).V e).bnd (itL s.io) := mkV_I ..
@[simp] theorem a_negV0 : (sem s (.neg a)).V0 e = (sem s (.neg a)).V e := _root_.id rfl
@[simp] theorem a_negH : (sem s (.neg a)).H e = (sem s (.neg a)).V e := _root_.id rfl
@[simp] theorem a_cmpW : (sem s (.cmp cp a b)).W e = ((sem s (.cmp cp a b)).V e).bnd lendK := mkT_W ..
@[simp] theorem a_cmpV0 : (sem s (.cmp cp a b)).V0 e = (sem s (.cmp cp a b)).V e := _root_.id rfl
@[simp] theorem a_cmpH : (sem s (.cmp cp a b)).H e = (sem s (.cmp cp a b)).V e := _root_.id rfl
@[simp] theorem a_chnW : (sem s (.chn o1 o2 a b c)).W e = ((sem s (.chn o1 o2 a b c)).V e).bnd lendK := mkT_W ..
@[simp] theorem a_chnV0 : (sem s (.chn o1 o2 a b c)).V0 e = (sem s (.chn o1 o2 a b c)).V e := _root_.id rfl
@[simp] theorem a_chnH : (sem s (.chn o1 o2 a b c)).H e = (sem s (.chn o1 o2 a b c)).V e := _root_.id rfl
@[simp] theorem a_ntW : (sem s (.nt a)).W e = ((sem s (.nt a)).V e).bnd lendK := mkT_W ..
@[simp] theorem a_ntV0 : (sem s (.nt a)).V0 e = (sem s (.nt a)).V e := _root_.id rfl
@[simp] theorem a_ntH : (sem s (.nt a)).H e = (sem s (.nt a)).V e := _root_.id rfl
@[simp] theorem a_anW : (sem s (.an a b)).W e = ((sem s (.an a b)).V e).bnd lendK := mkT_W ..
@[simp] theorem a_anV0 : (sem s (.an a b)).V0 e = (sem s (.an a b)).V e := _root_.id rfl
@[simp] theorem a_anH : (sem s (.an a b)).H e = (sem s (.an a b)).V e := _root_.id rfl
@[simp] theorem a_roW : (sem s (.ro a b)).W e = ((sem s (.ro a b)).V e).bnd lendK := mkT_W ..
@[simp] theorem a_roV0 : (sem s (.ro a b)).V0 e = (sem s (.ro a b)).V e := _root_.id rfl
@[simp] theorem a_roH : (sem s (.ro a b)).H e = (sem s (.ro a b)).V e := _root_.id rfl
@[simp] theorem a_cNV : (sem s (.cN)).V e = ((sem s (.cN)).W e).bnd immM := mkW_V ..
@[simp] theorem a_cNT : (sem s (.cN)).T e = ((sem s (.cN)).W e).bnd truM := mkW_T ..
@[simp] theorem a_cNI : (sem s (.cN)).I e = ((sem s (.cN)).V e).bnd (itL s.io) := mkW_I ..
@[simp] theorem a_cNV0 : (sem s (.cN)).V0 e = (sem s (.cN)).V e := _root_.id rfl
@[simp] theorem a_cNH : (sem s (.cN)).H e = (sem s (.cN)).V e := _root_.id rfl
@[simp] theorem a_cBV : (sem s (.cB bx)).V e = ((sem s (.cB bx)).W e).bnd immM := mkW_V ..
@[simp] theorem a_cBT : (sem s (.cB bx)).T e = ((sem s (.cB bx)).W e).bnd truM := mkW_T ..
@[simp] theorem a_cBI : (sem s (.cB bx)).I e = ((sem s (.cB bx)).V e).bnd (itL s.io) := mkW_I ..
@[simp] theorem a_cBV0 : (sem s (.cB bx)).V0 e = (sem s (.cB bx)).V e := _root_.id rfl
@[simp] theorem a_cBH : (sem s (.cB bx)).H e = (sem s (.cB bx)).V e := _root_.id rfl
@[simp] theorem a_cIV : (sem s (.cI j)).V e = ((sem s (.cI j)).W e).bnd immM := mkW_V ..
@[simp] theorem a_cIT : (sem s (.cI j)).T e = ((sem s (.cI j)).W e).bnd truM := mkW_T ..
@[simp] theorem a_cII : (sem s (.cI j)).I e = ((sem s (.cI j)).V e).bnd (itL s.io) := mkW_I ..
@[simp] theorem a_cIV0 : (sem s (.cI j)).V0 e = (sem s (.cI j)).V e := _root_.id rfl
@[simp] theorem a_cIH : (sem s (.cI j)).H e = (sem s (.cI j)).V e := _root_.id rfl
@[simp] theorem a_cTV : (sem s (.cT x)).V e = ((sem s (.cT x)).W e).bnd immM := mkW_V ..
@[simp] theorem a_cTT : (sem s (.cT x)).T e = ((sem s (.cT x)).W e).bnd truM := mkW_T ..
@[simp] theorem a_cTI : (sem s (.cT x)).I e = ((sem s (.cT x)).V e).bnd (itL s.io) := mkW_I ..
@[simp] theorem a_cTV0 : (sem s (.cT x)).V0 e = (sem s (.cT x)).V e := _root_.id rfl
@[simp] theorem a_cTH : (sem s (.cT x)).H e = (sem s (.cT x)).V e := _root_.id rfl
@[simp] theorem a_tyV : (sem s (.ty tx)).V e = ((sem s (.ty tx)).W e).bnd immM := mkW_V ..
@[simp] theorem a_tyT : (sem s (.ty tx)).T e = ((sem s (.ty tx)).W e).bnd truM := mkW_T ..
@[simp] theorem a_tyI : (sem s (.ty tx)).I e = ((sem s (.ty tx)).V e).bnd (itL s.io) := mkW_I ..
@[simp] theorem a_tyV0 : (sem s (.ty tx)).V0 e = (sem s (.ty tx)).V e := _root_.id rfl
@[simp] theorem a_tyH : (sem s (.ty tx)).H e = (sem s (.ty tx)).V e := _root_.id rfl
@[simp] theorem a_fnvV : (sem s (.fnv x)).V e = ((sem s (.fnv x)).W e).bnd immM := mkW_V ..
@[simp] theorem a_fnvT : (sem s (.fnv x)).T e = ((sem s (.fnv x)).W e).bnd truM := mkW_T ..
@[simp] theorem a_fnvI : (sem s (.fnv x)).I e = ((sem s (.fnv x)).V e).bnd (itL s.io) := mkW_I ..
@[simp] theorem a_fnvV0 : (sem s (.fnv x)).V0 e = (sem s (.fnv x)).V e := _root_.id rfl
@[simp] theorem a_fnvH : (sem s (.fnv x)).H e = (sem s (.fnv x)).V e := _root_.id rfl
@[simp] theorem a_gt1V : (sem s (.gt1 o k)).V e = ((sem s (.gt1 o k)).W e).bnd immM := mkW_V ..
@[simp] theorem a_gt1T : (sem s (.gt1 o k)).T e = ((sem s (.gt1 o k)).W e).bnd truM := mkW_T ..
@[simp] theorem a_gt1I : (sem s (.gt1 o k)).I e = ((sem s (.gt1 o k)).V e).bnd (itL s.io) := mkW_I ..
@[simp] theorem a_gt1V0 : (sem s (.gt1 o k)).V0 e = (sem s (.gt1 o k)).V e := _root_.id rfl
@[simp] theorem a_gt1H : (sem s (.gt1 o k)).H e = (sem s (.gt1 o k)).V e := _root_.id rfl
@[simp] theorem r_fldV : (sem s (.fld x a)).V e = ((sem s (.fld x a)).W e).vh (shM s.io (sem s (.fld x a)).PL) e := mkP_V ..
@[simp] theorem a_fldT : (sem s (.fld x a)).T e = ((sem s (.fld x a)).W e).bnd truM := mkP_T ..
@[simp] theorem a_fldI : (sem s (.fld x a)).I e = ((sem s (.fld x a)).W e).ip (keysP s.io (sem s (.fld x a)).PL e) (((sem s (.fld x a)).V e).bnd (itL s.io)) := mkP_I ..
@[simp] theorem a_fldPL0 : (sem s (.fld x a)).PL0 e = (sem s (.fld x a)).PL e := _root_.id rfl
@[simp] theorem a_fldV0 : (sem s (.fld x a)).V0 e = (sem s (.fld x a)).V e := _root_.id rfl
@[simp] theorem a_fldH : (sem s (.fld x a)).H e = (sem s (.fld x a)).V e := _root_.id rfl
@[simp] theorem a_subT : (sem s (.sub a b)).T e = ((sem s (.sub a b)).W e).bnd truM := mkP_T ..
@[simp] theorem a_subI : (sem s (.sub a b)).I e = ((sem s (.sub a b)).W e).ip (keysP s.io (sem s (.sub a b)).PL e) (((sem s (.sub a b)).V e).bnd (itL s.io)) := mkP_I ..
@[simp] theorem a_subV0 : (sem s (.sub a b)).V0 e = (sem s (.sub a b)).V e := _root_.id rfl
@[simp] theorem a_subH : (sem s (.sub a b)).H e = (sem s (.sub a b)).V e := _root_.id rfl
@[simp] theorem a_subPL0 : (sem s (.sub a b)).PL0 e = (sem s (.sub a b)).PL e := _root_.id rfl
@[simp] theorem a_gt2T : (sem s (.gt2 o k v)).T e = ((sem s (.gt2 o k v)).W e).bnd truM := mkP_T ..
@[simp] theorem a_gt2I : (sem s (.gt2 o k v)).I e = ((sem s (.gt2 o k v)).W e).ip (keysP s.io (sem s (.gt2 o k v)).PL e) (((sem s (.gt2 o k v)).V e).bnd (itL s.io)) := mkP_I ..
@[simp] theorem a_gt2V0 : (sem s (.gt2 o k v)).V0 e = (sem s (.gt2 o k v)).V e := _root_.id rfl
@[simp] theorem a_gt2H : (sem s (.gt2 o k v)).H e = (sem s (.gt2 o k v)).V e := _root_.id rfl
@[simp] theorem a_gt2PL0 : (sem s (.gt2 o k v)).PL0 e = (sem s (.gt2 o k v)).PL e := _root_.id rfl
@[simp] theorem r_subV : (sem s (.sub a b)).V e = ((sem s (.sub a b)).W e).vh (shM s.io (sem s (.sub a b)).PL) e := mkP_V ..
@[simp] theorem r_subPL : (sem s (.sub a b)).PL e = ((sem s a).PL e).bnd (subPK1 (sem s b).W) := bind_app ..
@[simp] theorem r_gt2V : (sem s (.gt2 o k v)).V e = ((sem s (.gt2 o k v)).W e).vh (get2H s.io (sem s o).PL (sem s k).W (sem s v).V) e := mkP_V ..
@[simp] theorem shM_app (io : Bool) (fp : M (Nat × Pth)) : shM io fp e = (fp e).bnd (shK io) := bind_app ..
@[simp] theorem r_gt2W : (sem s (.gt2 o k v)).W e = ((sem s o).W e).bnd (get2K (sem s k).W (sem s v).W) := bind_app ..
@[simp] theorem r_gt1W : (sem s (.gt1 o k)).W e = ((sem s o).W e).bnd (get1K (sem s k).W) := bind_app ..
@[simp] theorem r_fldW : (sem s (.fld x a)).W e = ((sem s a).W e).bnd (fldK s.xt s.it x) := bind_app ..
def negK (d : D) : M D := newM (negD d)
@[simp] theorem negK_int (i : Int) : negK (.int i) e = .ok (.int (-i)) e := _root_.id rfl
@[simp] theorem r_neg : (sem s (.neg a)).V e = ((sem s a).W e).bnd negK := bind_app ..
@[simp] theorem r_stp : (sem s (.stp j a)).V e = ((sem s a).W e).bnd (stpK j) := bind_app ..
@[simp] theorem r_enu : (sem s (.enu a)).I e = ((sem s a).H e).bnd (enumL s.io) := bind_app ..
def zpK (io : Bool) (g : M D) (x : D) : M (List D) := g.bind (zipL io x)
@[simp] theorem zpK_app (io : Bool) (g : M D) (x : D) : zpK io g x e = (g e).bnd (zipL io x) := bind_app ..
@[simp] theorem r_zp : (sem s (.zp a b)).I e = ((sem s a).H e).bnd (zpK s.io (sem s b).H) := bind_app ..
@[simp] theorem r_wh : (sem s (.wh a b)).S e = whileM (sem s a).T (sem s b).S wFuel e := by simp only [sem]
@[simp] theorem r_fr2 (j : Nat) : (sem s (.fr (.tgt (.cons (.tgn i) (.cons (.tgn j) .nil))) it b)).S e = ((sem s it).I e).bnd (loopM (tupG [putE s.io i, putE s.io j]) (sem s b).S) := bind_app ..
@[simp] theorem r_fr3 (j k : Nat) : (sem s (.fr (.tgt (.cons (.tgn i) (.cons (.tgn j) (.cons (.tgn k) .nil)))) it b)).S e = ((sem s it).I e).bnd (loopM (tupG [putE s.io i, putE s.io j, putE s.io k]) (sem s b).S) := bind_app ..
@[simp] theorem r_lc2 (j : Nat) : (sem s (.lc own (.tgt (.cons (.tgn i) (.cons (.tgn j) .nil))) it ts el)).V e = ((sem s it).I e).bnd (lcK own (tupG [putE s.io i, putE s.io j]) (sem s ts).T (sem s el).V) := bind_app ..
@[simp] theorem r_lc3 (j k : Nat) : (sem s (.lc own (.tgt (.cons (.tgn i) (.cons (.tgn j) (.cons (.tgn k) .nil)))) it ts el)).V e = ((sem s it).I e).bnd (lcK own (tupG [putE s.io i, putE s.io j, putE s.io k]) (sem s ts).T (sem s el).V) := bind_app ..
@[simp] theorem r_nmW : (sem s (.nm i)).W e = slotM i e := _root_.id rfl
@[simp] theorem r_nmT : (sem s (.nm i)).T e = (slotM i e).bnd truM := bind_app ..
@[simp] theorem r_nmH : (sem s (.nm i)).H e = slotS s.io i e := _root_.id rfl
@[simp] theorem r_nmV : (sem s (.nm i)).V e = slotC i e := _root_.id rfl
@[simp] theorem r_nmZ : (sem s (.nm i)).V0 e = slotC i e := _root_.id rfl
@[simp] theorem r_nmI : (sem s (.nm i)).I e = (slotS s.io i e).bnd (itL s.io) := bind_app ..
@[simp] theorem r_npW : (sem s (.np i)).W e = slotM i e := _root_.id rfl
@[simp] theorem r_npT : (sem s (.np i)).T e = (slotM i e).bnd truM := bind_app ..
@[simp] theorem r_npH : (sem s (.np i)).H e = slotS s.io i e := _root_.id rfl
@[simp] theorem r_npV : (sem s (.np i)).V e = slotC i e := _root_.id rfl
@[simp] theorem r_npZ : (sem s (.np i)).V0 e = slotC i e := _root_.id rfl
@[simp] theorem r_npI : (sem s (.np i)).I e = (slotM i e).ip (keysP s.io (slotP1 i) e) ((slotS s.io i e).bnd (itL s.io)) := itP_app ..
@[simp] theorem r_npP : (sem s (.np i)).PL e = slotP1 i e := _root_.id rfl
@[simp] theorem r_npP0 : (sem s (.np i)).PL0 e = slotP1 i e := _root_.id rfl
@[simp] theorem r_nsW : (sem s (.ns i)).W e = slotM i e := _root_.id rfl
@[simp] theorem r_nsT : (sem s (.ns i)).T e = (slotM i e).bnd truM := bind_app ..
@[simp] theorem r_nsH : (sem s (.ns i)).H e = slotS s.io i e := _root_.id rfl
@[simp] theorem r_nsV : (sem s (.ns i)).V e = (slotM i e).vh (slotS s.io i) e := vhM_app ..
@[simp] theorem r_nsZ : (sem s (.ns i)).V0 e = (slotM i e).vh (slotS s.io i) e := vhM_app ..
@[simp] theorem r_nsI : (sem s (.ns i)).I e = (slotM i e).ip (keysP s.io (slotP1 i) e) ((slotS s.io i e).bnd (itL s.io)) := itP_app ..
@[simp] theorem r_nsP : (sem s (.ns i)).PL e = slotP1 i e := _root_.id rfl
@[simp] theorem r_nsP0 : (sem s (.ns i)).PL0 e = slotP1 i e := _root_.id rfl
@[simp] theorem r_fnv : (sem s (.fnv x)).W e = .ok (.fn x) e := _root_.id rfl
@[simp] theorem r_cN : (sem s .cN).W e = .ok .non e := _root_.id rfl
@[simp] theorem r_cB :  (sem s (.cB bx)).W e = .ok (.bl bx) e := _root_.id rfl
@[simp] theorem r_cI :  (sem s (.cI j)).W e = .ok (.int j) e := _root_.id rfl
@[simp] theorem r_cT : (sem s (.cT x)).W e = .ok (.str x) e := _root_.id rfl
@[simp] theorem r_ty : (sem s (.ty tx)).W e = .ok (.ty tx) e := _root_.id rfl
@[simp] theorem r_bin : (sem s (.bin op a b)).V e = ((sem s a).W e).bnd (binK (opD op) (sem s b).W) := bind_app ..
@[simp] theorem r_cmp : (sem s (.cmp cp a b)).V e = ((sem s a).W e).bnd (binK (cmpD cp) (sem s b).W) := bind_app ..
@[simp] theorem r_cmpT : (sem s (.cmp cp a b)).T e = (((sem s a).W e).bnd (binK (cmpD cp) (sem s b).W)).bnd blM := by
  show ((binN _ _ _).bind blM) e = _
  rw [bind_app]
  exact congrArg (fun r => Res.bnd r blM) (bind_app ..)
@[simp] theorem r_chn : (sem s (.chn o1 o2 a b c)).V e = ((sem s a).W e).bnd (chnK (cmpD o1) (cmpD o2) (sem s b).W (sem s c).W) := by
  show chainM _ _ _ _ _ e = _
  rw [chainM_eq]
  exact bind_app ..
@[simp] theorem r_chnT : (sem s (.chn o1 o2 a b c)).T e = (((sem s a).W e).bnd (chnK (cmpD o1) (cmpD o2) (sem s b).W (sem s c).W)).bnd blM := by
  show ((chainM _ _ _ _ _).bind blM) e = _
  rw [bind_app, chainM_eq]
  exact congrArg (fun r => Res.bnd r blM) (bind_app ..)
@[simp] theorem r_nt : (sem s (.nt a)).V e = ((sem s a).W e).bnd notK := by
  show notV _ e = _
  rw [notV_eq]
  exact bind_app ..
@[simp] theorem r_ntT : (sem s (.nt a)).T e = ((sem s a).T e).bnd nK := bind_app ..
@[simp] theorem r_an : (sem s (.an a b)).V e = ((sem s a).W e).bnd (andK (sem s b).V) := bind_app ..
@[simp] theorem r_anT : (sem s (.an a b)).T e = ((sem s a).T e).bnd (andTK (sem s b).T) := bind_app ..
@[simp] theorem r_ro : (sem s (.ro a b)).V e = ((sem s a).W e).bnd (orK (sem s b).V) := by
  show orV _ _ e = _
  rw [orV_eq]
  exact bind_app ..
@[simp] theorem r_roT : (sem s (.ro a b)).T e = ((sem s a).T e).bnd (orTK (sem s b).T) := bind_app ..
@[simp] theorem r_ifxV : (sem s (.ifx t a b)).V e = ((sem s t).T e).bnd (iteK (sem s a).V (sem s b).V) := bind_app ..
@[simp] theorem r_ifxZ : (sem s (.ifx t a b)).V0 e = ((sem s t).T e).bnd (iteK (sem s a).V (sem s b).V) := bind_app ..
@[simp] theorem r_ifxW : (sem s (.ifx t a b)).W e = ((sem s t).T e).bnd (iteK (sem s a).W (sem s b).W) := bind_app ..
@[simp] theorem r_call : (sem s (.call n a)).V e = ((sem s a).AW e).bnd (callK s.fs[n]?) := by
  show s.fn n _ e = _
  unfold Sm.fn callK
  cases s.fs[n]? with
  | none => exact bind_app ..
  | some q => exact bind_app ..
@[simp] theorem r_blt : (sem s (.blt n a)).V e = ((sem s a).AW e).bnd (bltK n) := by
  show bltM n _ e = _
  unfold bltM
  split <;> first | exact bind_app .. | skip
  unfold bltK
  have : bltD n = fun _ => none := by
    unfold bltD
    split <;> first | contradiction | rfl
  rw [this]
  exact bind_app ..
@[simp] theorem r_isi : (sem s (.isi a)).V e = ((sem s a).AW e).bnd (isiK s.tb s.xc) := bind_app ..
@[simp] theorem r_calh : (sem s (.calh n a)).V e = ((sem s a).AH e).bnd (calhK s.fs[n]?) := by
  show s.fnH n _ e = _
  unfold Sm.fnH calhK
  cases s.fs[n]? with
  | none => exact bind_app ..
  | some q => exact bind_app ..
@[simp] theorem r_exv : (sem s (.exv x flds a)).V e = ((sem s a).AV e).bnd (exvK x flds) := bind_app ..
@[simp] theorem r_lmt : (sem s (.lmt n o a)).V0 e = ((sem s o).PL0 e).bnd (lmK (lmOp n) (sem s a).AV) := bind_app ..
@[simp] theorem r_sdf : (sem s (.sdf o k v)).PL0 e = ((sem s o).PL e).bnd (sdK (sem s k).W (sem s v).V) := bind_app ..
@[simp] theorem r_dnwt : (sem s .dnwt).V e = .ok (.dt .own []) e := _root_.id rfl
@[simp] theorem r_sto : (sem s (.sto v o k)).S e = ((sem s v).V0 e).bnd (stoK (sem s o).PL0 (sem s k).W) := bind_app ..
@[simp] theorem r_rai : (sem s (.rai x flds a)).S e = ((sem s a).AV e).bnd (raiK x flds) := bind_app ..
@[simp] theorem r_rait : (sem s (.rait x a)).S e = ((sem s a).W e).bnd (raitK x) := bind_app ..
@[simp] theorem r_tryk (tab : List (Str × Bool)) : (sem s (.tryk tab i a b)).S e = tryK (sem s a).S tab i (sem s b).S e := _root_.id rfl
@[simp] theorem r_tryo (tab : List (Str × Bool)) : (sem s (.tryo tab a b c)).S e = tryO (sem s a).S tab (sem s b).S (sem s c).S e := _root_.id rfl
@[simp] theorem r_nilH : (sem s .nil).AH e = .ok [] e := _root_.id rfl
@[simp] theorem r_consH : (sem s (.cons a r)).AH e = ((sem s a).H e).bnd (consK (sem s r).AH) := bind_app ..
@[simp] theorem r_met : (sem s (.met n o a)).V e = ((sem s o).W e).bnd (metK n (sem s a).W) := by
  show metM n _ _ e = _
  unfold metM
  split <;> first | exact bind_app .. | skip
  unfold metK
  have : metK2 n = fun _ _ => M.bad := by
    funext x y
    unfold metK2
    have : metD n = fun _ _ => none := by
      unfold metD
      split <;> first | contradiction | rfl
    rw [this]; rfl
  rw [this]
  exact bind_app ..
@[simp] theorem r_lst : (sem s (.lst a)).V e = ((sem s a).AV e).bnd lstK := bind_app ..
@[simp] theorem r_tup : (sem s (.tup a)).V e = ((sem s a).AV e).bnd tupK := bind_app ..
@[simp] theorem r_sli : (sem s (.sli a lo hi)).V e = ((sem s a).W e).bnd (sliK (sem s lo).O (sem s hi).O) := bind_app ..
@[simp] theorem r_sub : (sem s (.sub a b)).W e = ((sem s a).W e).bnd (subK (sem s b).W) := bind_app ..
@[simp] theorem r_lc : (sem s (.lc own (.tgn i) it ts el)).V e = ((sem s it).I e).bnd (lcK own (putE s.io i) (sem s ts).T (sem s el).V) := bind_app ..
@[simp] theorem r_dnew : (sem s .dnew).V e = .ok (.dk .own []) e := _root_.id rfl
@[simp] theorem r_disp : (sem s (.disp a)).V e = (pairsM (sem s a).P e).bnd dispK := bind_app ..
@[simp] theorem r_nilP : (sem s .nil).P = [] := _root_.id rfl
@[simp] theorem r_prP : (sem s (.pr k v r)).P = ((sem s k).W, (sem s v).V) :: (sem s r).P := _root_.id rfl
@[simp] theorem r_nilW : (sem s .nil).AW e = .ok [] e := _root_.id rfl
@[simp] theorem r_nilV : (sem s .nil).AV e = .ok [] e := _root_.id rfl
@[simp] theorem r_consW : (sem s (.cons a r)).AW e = ((sem s a).W e).bnd (consK (sem s r).AW) := bind_app ..
@[simp] theorem r_consV : (sem s (.cons a r)).AV e = ((sem s a).V e).bnd (consK (sem s r).AV) := bind_app ..
@[simp] theorem r_on : (sem s .on).O e = .ok none e := _root_.id rfl
@[simp] theorem r_os : (sem s (.os a)).O e = ((sem s a).W e).bnd intM := bind_app ..
@[simp] theorem r_yes : (sem s .yes).T = M.ret true := _root_.id rfl
@[simp] theorem r_rng1 : (sem s (.rng1 a)).I e = ((sem s a).W e).bnd rng1 := bind_app ..
@[simp] theorem r_nx : (sem s .nx).S e = .ok .next e := _root_.id rfl
@[simp] theorem r_ex : (sem s (.ex a)).S e = ((sem s a).V0 e).bnd exK := bind_app ..
@[simp] theorem r_ret : (sem s (.ret a)).S e = ((sem s a).V e).bnd retK := bind_app ..
@[simp] theorem r_retN : (sem s .retN).S e = .ok (.ret .non) e := _root_.id rfl
@[simp] theorem r_brk : (sem s .brk).S e = .ok .brk e := _root_.id rfl
@[simp] theorem r_cnt : (sem s .cnt).S e = .ok .cont e := _root_.id rfl
@[simp] theorem r_ite : (sem s (.ite t a b)).S e = ((sem s t).T e).bnd (iteK (sem s a).S (sem s b).S) := bind_app ..
@[simp] theorem r_set : (sem s (.set i a)).S e = ((sem s a).V0 e).bnd (setK s.io i) := by
  show setM s.io i _ e = _
  unfold setM
  rw [bind_app]
  congr 1
  funext d e'
  rw [bind_app]
  unfold liftT putE setK
  by_cases h : i < e'.length ∧ (s.io = false ∨ i ≠ 0)
  · rw [if_pos h, if_pos h]; rfl
  · rw [if_neg h, if_neg h]
    rfl
@[simp] theorem r_fr : (sem s (.fr (.tgn i) it b)).S e = ((sem s it).I e).bnd (loopM (putE s.io i) (sem s b).S) := bind_app ..
@[simp] theorem r_sq : (sem s (.sq a b)).S e = ((sem s a).S e).sq (sem s b).S := by
  show seqM _ _ e = _
  unfold seqM
  rw [bind_app]
  cases (sem s a).S e with
  | ok fl e' => cases fl <;> rfl
  | _ => rfl
@[simp] theorem noexc_app {α : Type} (f : M α) : noexc f e = match f e with | .exc _ _ _ => .bad | r => r := _root_.id rfl
end
/-! ### operations at values -/
@[simp] theorem opD_add : opD .Add = addD := _root_.id rfl
@[simp] theorem opD_sub : opD .Sub = subD := _root_.id rfl
@[simp] theorem opD_mul : opD .Mult = mulE := _root_.id rfl
@[simp] theorem opD_div : opD .FloorDiv = fdivD := _root_.id rfl
@[simp] theorem opD_mod : opD .Mod = modD := _root_.id rfl
@[simp] theorem cmpD_eq : cmpD .Eq = eqD := _root_.id rfl
@[simp] theorem cmpD_ne : cmpD .NotEq = neD := _root_.id rfl
@[simp] theorem cmpD_lt : cmpD .Lt = ltD := _root_.id rfl
@[simp] theorem cmpD_le : cmpD .LtE = leD := _root_.id rfl
@[simp] theorem cmpD_gt : cmpD .Gt = gtD := _root_.id rfl
@[simp] theorem cmpD_ge : cmpD .GtE = geD := _root_.id rfl
@[simp] theorem cmpD_is : cmpD .Is = isD := _root_.id rfl
@[simp] theorem cmpD_isn : cmpD .IsNot = isnD := _root_.id rfl
@[simp] theorem cmpD_in : cmpD .In = inD := _root_.id rfl
@[simp] theorem cmpD_nin : cmpD .NotIn = ninD := _root_.id rfl
@[simp] theorem addD_int (i j : Int) : addD (.int i) (.int j) = some (.sc (.int (i + j))) := _root_.id rfl
@[simp] theorem addD_str (x y : Str) : addD (.str x) (.str y) = if x.length + y.length ≤ sizeLine then some (.sc (.str (x ++ y))) else none := _root_.id rfl
@[simp] theorem subD_int (i j : Int) : subD (.int i) (.int j) = some (.sc (.int (i - j))) := _root_.id rfl
@[simp] theorem mulD_int (i j : Int) : mulD (.int i) (.int j) = if (-(2 ^ 64) < i ∧ i < 2 ^ 64) ∨ (-(2 ^ 64) < j ∧ j < 2 ^ 64) then some (.sc (.int (i * j))) else none := _root_.id rfl
@[simp] theorem mulE_int (i j : Int) : mulE (.int i) (.int j) = mulD (.int i) (.int j) := _root_.id rfl
@[simp] theorem mulE_str (z : Str) (k : Int) : mulE (.str z) (.int k) = if inIx k ∧ z.length * k.toNat ≤ sizeLine then some (.sc (.str (repS z k.toNat))) else none := _root_.id rfl
@[simp] theorem fdivD_int (i j : Int) : fdivD (.int i) (.int j) = if 0 < j ∧ j < 1073741824 then some (.sc (.int (i / j))) else none := _root_.id rfl
@[simp] theorem modD_int (i j : Int) : modD (.int i) (.int j) = if 0 < j then some (.sc (.int (i % j))) else none := _root_.id rfl
@[simp] theorem ltD_int (i j : Int) : ltD (.int i) (.int j) = some (.sc (.bl (decide (i < j)))) := _root_.id rfl
@[simp] theorem leD_int (i j : Int) : leD (.int i) (.int j) = some (.sc (.bl (decide (i ≤ j)))) := _root_.id rfl
@[simp] theorem gtD_int (i j : Int) : gtD (.int i) (.int j) = some (.sc (.bl (decide (j < i)))) := _root_.id rfl
@[simp] theorem geD_int (i j : Int) : geD (.int i) (.int j) = some (.sc (.bl (decide (j ≤ i)))) := _root_.id rfl
@[simp] theorem isD_non (d : D) : isD d .non = some (.sc (.bl (isNon d))) := _root_.id rfl
@[simp] theorem isnD_non (d : D) : isnD d .non = some (.sc (.bl (!isNon d))) := _root_.id rfl
@[simp] theorem ixD_lst (f : Fl) (ds : List D) (i : Int) : ixD (.lst f ds) (.int i) = atI ds i := _root_.id rfl
@[simp] theorem ixD_tup (ds : List D) (i : Int) : ixD (.tup ds) (.int i) = atI ds i := _root_.id rfl
@[simp] theorem ixD_str (z : Str) (i : Int) : ixD (.str z) (.int i) = if z.length ≤ sizeLine then (atI z.cps.toList i).map fun c => .str ⟨#[c]⟩ else none := _root_.id rfl
@[simp] theorem ixD_ks (f : Fl) (ks : List (Key × D)) (x : Str) : ixD (.dk f ks) (.str x) = getA ks (.inr x) := _root_.id rfl
@[simp] theorem ixD_ki (f : Fl) (ks : List (Key × D)) (x : Int) : ixD (.dk f ks) (.int x) = getA ks (.inl x) := _root_.id rfl
@[simp] theorem eqD_int (i j : Int) : eqD (.int i) (.int j) = some (.sc (.bl (decide (i = j)))) := _root_.id rfl
@[simp] theorem eqD_bl (i j : Bool) : eqD (.bl i) (.bl j) = some (.sc (.bl (decide (i = j)))) := _root_.id rfl
@[simp] theorem eqD_str (i j : Str) : eqD (.str i) (.str j) = some (.sc (.bl (decide (i = j)))) := _root_.id rfl
@[simp] theorem neD_int (i j : Int) : neD (.int i) (.int j) = some (.sc (.bl (!decide (i = j)))) := _root_.id rfl
@[simp] theorem neD_bl (i j : Bool) : neD (.bl i) (.bl j) = some (.sc (.bl (!decide (i = j)))) := _root_.id rfl
@[simp] theorem neD_str (i j : Str) : neD (.str i) (.str j) = some (.sc (.bl (!decide (i = j)))) := _root_.id rfl
@[simp] theorem inD_str (i j : Str) : inD (.str i) (.str j) = some (.sc (.bl (subS i j))) := _root_.id rfl
@[simp] theorem ninD_str (i j : Str) : ninD (.str i) (.str j) = some (.sc (.bl (!subS i j))) := _root_.id rfl
@[simp] theorem len_str (x : Str) : bltD 0 [.str x] = if x.length ≤ sizeLine then some (.sc (.int x.length)) else none := _root_.id rfl
@[simp] theorem len_lst (f : Fl) (ds : List D) : bltD 0 [.lst f ds] = some (.sc (.int ds.length)) := _root_.id rfl
@[simp] theorem len_tup (ds : List D) : bltD 0 [.tup ds] = some (.sc (.int ds.length)) := _root_.id rfl
@[simp] theorem min_int (i j : Int) : bltD 2 [.int i, .int j] = some (.sc (.int (if j < i then j else i))) := _root_.id rfl
@[simp] theorem max_int (i j : Int) : bltD 3 [.int i, .int j] = some (.sc (.int (if j > i then j else i))) := _root_.id rfl
@[simp] theorem all_lst (f : Fl) (ds : List D) : bltD 4 [.lst f ds] = (blsD ds).map fun bs => .sc (.bl (bs.all id)) := _root_.id rfl
@[simp] theorem any_lst (f : Fl) (ds : List D) : bltD 5 [.lst f ds] = (blsD ds).map fun bs => .sc (.bl (bs.any id)) := _root_.id rfl
@[simp] theorem abs_int (i : Int) : bltD 6 [.int i] = some (.sc (.int (if i < 0 then -i else i))) := _root_.id rfl
theorem join_lst (x : Str) (f : Fl) (ds : List D) : metD 0 (.str x) [.lst f ds] = (strsD ds).bind fun ys => if (ys.map (·.length)).sum + ys.length * x.length ≤ bigT then some (.sc (.str (Txt.join x ys))) else none := rfl
@[simp] theorem tyD_bl (b : Bool) : tyD (.bl b) = some "bool" := _root_.id rfl
@[simp] theorem tyD_int (b : Int) : tyD (.int b) = some "int" := _root_.id rfl
@[simp] theorem tyD_str (b : Str) : tyD (.str b) = some "str" := _root_.id rfl
@[simp] theorem tyD_non : tyD .non = some "NoneType" := _root_.id rfl
@[simp] theorem truM_bl (b : Bool) (e : Env) : truM (.bl b) e = .ok b e := _root_.id rfl
@[simp] theorem fnRes_ret_bl (b : Bool) (e : Env) : fnRes (.ok (.ret (.bl b)) e) = .ok (.bl b) := _root_.id rfl
@[simp] theorem fnRes_ret_int (b : Int) (e : Env) : fnRes (.ok (.ret (.int b)) e) = .ok (.int b) := _root_.id rfl
@[simp] theorem fnRes_ret_str (b : Str) (e : Env) : fnRes (.ok (.ret (.str b)) e) = .ok (.str b) := _root_.id rfl
@[simp] theorem fnRes_ret_non (e : Env) : fnRes (.ok (.ret .non) e) = .ok .non := _root_.id rfl
@[simp] theorem fnRes_ite (c : Prop) [Decidable c] (x y : Res Fw) : fnRes (if c then x else y) = if c then fnRes x else fnRes y := by split <;> rfl
end DG

set_option Elab.async false
set_option linter.all false
set_option maxHeartbeats 4000000
/-! DJg: what the written part says of classes, as truths that compute. -/
namespace DG
open PySem PySem.Spec PyProof.Rows L2
set_option autoImplicit false
instance : LawfulBEq CN where
  eq_of_beq {a b} h := by
    cases a <;> cases b
    · exact congrArg Sum.inl (eq_of_beq h)
    · cases h
    · cases h
    · exact congrArg Sum.inr (eq_of_beq h)
  rfl {a} := by
    cases a with
    | inl x => exact beq_self_eq_true x
    | inr x => exact beq_self_eq_true x
theorem mem_lk {α β : Type} [BEq α] [LawfulBEq α] {x : α} {y : β} : ∀ {l : List (α × β)}, l.lookup x = some y → (x, y) ∈ l
  | [], h => by cases h
  | (a, b) :: l, h => by
    rw [List.lookup_cons] at h
    split at h
    · rename_i q
      cases h
      rw [beq_iff_eq.mp q]; exact List.mem_cons_self
    · exact List.mem_cons_of_mem _ (mem_lk h)
def clsBody : Stmt → List Stmt
  | .ClassDef (body := b) .. => b
  | _ => []
section
variable {K : PySem.W.Frag} {mg : Str → Option Value} {P : Program} {w : World} {base : Heap} {C : Addr}
def oexB (K : PySem.W.Frag) (C : Addr) : Bool := (match K.lookup C with
    | some ⟨.type "type", _, .cls cd, sl⟩ => (match cd.mro, sl.toList with
      | .ref C' :: bm, [_, _, _, _, some (.builtin n), _] => C' == C && n == "ValueError.__new__" && !cd.hasDel && cd.hasDict && PySem.HandSPX.refsVE bm
      | _, _ => false)
    | _ => false) && decide (PySem.W.findIn K (.ref C) "__setattr__" = some (some (.builtin "object.__setattr__"))) && decide (PySem.W.subIn K (.ref C) (.type "BaseException") = some true) && decide (PySem.W.typeIn K (.ref C) = some (.type "type")) && PySem.W.keepIn K (.ref C)
theorem oexB_of (h : oexB K C = true) : OexC K C := by
  unfold oexB at h
  simp only [Bool.and_eq_true, decide_eq_true_eq] at h
  obtain ⟨⟨⟨⟨q, h1⟩, h2⟩, h3⟩, h4⟩ := h
  refine ⟨?_, h1, h2, h3, h4⟩
  split at q
  · rename_i dd cd sl ho
    split at q
    · rename_i C' bm k0 k1 k2 k3 n k5 hm hs
      simp only [Bool.and_eq_true, beq_iff_eq, Bool.not_eq_true'] at q
      obtain ⟨⟨⟨⟨rfl, rfl⟩, hdel⟩, hd⟩, ht⟩ := q
      obtain ⟨nm, bs, mro, ns, qn, hdd, sn, sub, ab, col, del⟩ := cd
      dsimp only at hm hdel hd
      subst hm hdel hd
      have hsl : sl = #[k0, k1, k2, k3, some (.builtin "ValueError.__new__"), k5] := by
        obtain ⟨l⟩ := sl
        simp only at hs
        rw [hs]
      subst hsl
      exact ⟨nm, qn, ns, bs, bm, sn, sub, ab, col, dd, k0, k1, k2, k3, k5, ho, ht⟩
    · cases q
  · cases q
def excCB (K : PySem.W.Frag) (C : Addr) : Bool := decide (PySem.W.findIn K (.ref C) "__getattribute__" = some (some (.builtin "BaseException.__getattribute__"))) && decide (PySem.W.findIn K (.ref C) "__getattr__" = some none) && decide (PySem.W.subIn K (.ref C) (.type "BaseException") = some true) &&
  PySem.W.hasDictIn K C && decide (PySem.W.findIn K (.ref C) "__class__" = some (some (.builtin "object.__class__"))) && decide (PySem.W.specialIn K (.builtin "object.__class__") "__get__" = some (some (.builtin "getset_descriptor.__get__"))) && decide (PySem.W.takesIn K (.builtin "object.__class__") = some true) && decide (PySem.W.mroIn K C (.type "object") = some true)
theorem excCB_of (h : excCB K C = true) : ExcC K C ∧ XfC K C := by
  unfold excCB at h
  simp only [Bool.and_eq_true, decide_eq_true_eq] at h
  obtain ⟨⟨⟨⟨⟨⟨⟨h1, h2⟩, h3⟩, h4⟩, h5⟩, h6⟩, h7⟩, h8⟩ := h
  exact ⟨⟨h1, h2, h3, h4, h5, h6, h7, h8⟩, ⟨h1, h2, h3, h4⟩⟩
/-- where the classes stand -/
abbrev ClL := List (Str × Addr)
def ClOk (mg : Str → Option Value) (l : ClL) : Prop := ∀ x C, l.lookup x = some C → mg x = some (.ref C)
def cvOf (l : ClL) : CN → Option Value
  | .inl x => (l.lookup x).map .ref
  | .inr t => some (.type t)
def tabB (K : PySem.W.Frag) (l : ClL) (tb : Tab) : Bool := tb.all fun e => match cvOf l e.1.1, cvOf l e.1.2 with
  | some a, some b => PySem.W.kitOne K a b == some e.2
  | _, _ => false
theorem cvOf_val {l : ClL} (L : ClOk mg l) {a : CN} {u v : Value} (h : cvOf l a = some u) (c : CVal mg a v) : v = u := by
  cases a with
  | inl x =>
    obtain ⟨h1, C, rfl⟩ := c
    cases q : l.lookup x with
    | none => simp [cvOf, q] at h
    | some C' =>
      simp only [cvOf, q, Option.map_some, Option.some.injEq] at h
      subst h
      rw [L x C' q] at h1
      exact (Option.some.inj h1).symm
  | inr t => cases h; exact c
theorem tabB_of {l : ClL} {tb : Tab} (L : ClOk mg l) (h : tabB K l tb = true) : TbOk K mg tb := fun a b r hl va vb ca cb => by
  have hm := mem_lk hl
  have h := List.all_eq_true.mp h _ hm
  dsimp only at h
  split at h
  · rename_i u v h1 h2
    rw [cvOf_val L h1 ca, cvOf_val L h2 cb]
    exact beq_iff_eq.mp h
  · cases h
def xcB (K : PySem.W.Frag) (l : ClL) (xc : List Str) : Bool := xc.all fun x => match l.lookup x with
  | some C => excCB K C
  | none => false
theorem ref_of {l : ClL} (L : ClOk mg l) {x : Str} {C C' : Addr} (h : l.lookup x = some C) (hm : mg x = some (.ref C')) : C' = C := by
  rw [L x C h] at hm
  cases hm; rfl
theorem xcB_of {l : ClL} {xc : List Str} (L : ClOk mg l) (h : xcB K l xc = true) : XcOk K mg xc := fun c hc C hm => by
  have h := List.all_eq_true.mp h c hc
  split at h
  · rename_i C' hl
    rw [ref_of L hl hm]
    exact excCB_of h
  · cases h
def ftB (K : PySem.W.Frag) (l : ClL) (xt it : FTab) : Bool := (xt.all fun e => match l.lookup e.1 with
  | some C => excCB K C && e.2.all fun n => decide (PySem.W.findIn K (.ref C) n = some none)
  | none => false) && it.isEmpty
theorem ftB_of {l : ClL} {xt it : FTab} (L : ClOk mg l) (h : ftB K l xt it = true) : FtOk K mg xt it := by
  obtain ⟨h1, h2⟩ := Bool.and_eq_true_iff.mp h
  refine ⟨fun c ns hl C hm => ?_, fun c ns hl => ?_⟩
  · have h := List.all_eq_true.mp h1 _ (mem_lk hl)
    dsimp only at h
    split at h
    · rename_i C' hl'
      rw [ref_of L hl' hm]
      obtain ⟨k1, k2⟩ := Bool.and_eq_true_iff.mp h
      exact ⟨(excCB_of k1).2, fun n hn => of_decide_eq_true (List.all_eq_true.mp k2 n hn)⟩
    · cases h
  · have : it = [] := List.isEmpty_iff.mp h2
    subst this
    cases hl
def extB (K : PySem.W.Frag) (l : ClL) (cv : Value) (tab : List (Str × Bool)) : Bool := tab.all fun e => match l.lookup e.1 with
  | some C => PySem.W.exmOne K (.ref C) cv == some e.2
  | none => false
theorem extB_of {l : ClL} {cv : Value} {tab : List (Str × Bool)} (L : ClOk mg l) (h : extB K l cv tab = true) : ExTab K mg cv tab := fun x b hl => by
  have h := List.all_eq_true.mp h _ (mem_lk hl)
  dsimp only at h
  split at h
  · rename_i C hc
    exact ⟨C, L x C hc, beq_iff_eq.mp h⟩
  · cases h
def plB (K : PySem.W.Frag) (C : Addr) : Bool := PySem.W.excIn K C PySem.HandSPX.veTail "ValueError.__new__" && PySem.W.keepIn K (.ref C) && decide (PySem.W.subIn K (.ref C) (.type "BaseException") = some true) && decide (PySem.W.typeIn K (.ref C) = some (.type "type"))
theorem exPlain_of {x : Str} (hm : mg x = some (.ref C)) (h : plB K C = true) : ExPlain K mg x := by
  unfold plB at h
  simp only [Bool.and_eq_true, decide_eq_true_eq] at h
  obtain ⟨⟨⟨h1, h2⟩, h3⟩, h4⟩ := h
  exact ⟨C, _, _, _, _, PySem.F.excBase_ValueError, h1, hm, h2, h3, h4⟩
theorem exOwn1_of {x f qual : Str} {fI : Addr} {st : Stmt} {fd : FuncData} {p1 p2 p3 p4 : Pos} {ps pr : Str} (hm : mg x = some (.ref C)) (T : oexB K C = true) (iC : PySem.W.findIn K (.ref C) "__init__" = some (some (.ref fI))) (tI : PySem.W.typeIn K (.ref fI) = some (.type "function"))
    (hf : PySem.W.findIn K (.ref C) f = some none) (Fn : Fun K "__init__" qual st fI fd) (S : FnScope [ps, pr] [ps, pr] (defScope st)) (hb : defBody st = [.Assign [.Attribute (.Name ps p1) f p2] (.Name pr p3) p4]) (hn : (plainN ps && plainN pr) = true) (bd : Binds K fd [ps, pr] []) : ExOwn K mg P w base x [f] := by
  obtain ⟨n1, n2⟩ := Bool.and_eq_true_iff.mp hn
  exact ⟨C, fI, fd, _, oexB_of T, iC, tI, exi1 Fn S hb (oexB_of T) hf n1 n2, bd, hm⟩
theorem exOwn2_of {x f f2 qual : Str} {fI : Addr} {st : Stmt} {fd : FuncData} {p1 p2 p3 p4 p5 p6 p7 p8 : Pos} {ps pr pt : Str} (hm : mg x = some (.ref C)) (T : oexB K C = true) (iC : PySem.W.findIn K (.ref C) "__init__" = some (some (.ref fI))) (tI : PySem.W.typeIn K (.ref fI) = some (.type "function"))
    (hf : PySem.W.findIn K (.ref C) f = some none) (hf2 : PySem.W.findIn K (.ref C) f2 = some none) (Fn : Fun K "__init__" qual st fI fd) (S : FnScope [ps, pr, pt] [ps, pr, pt] (defScope st))
    (hb : defBody st = [.Assign [.Attribute (.Name ps p1) f p2] (.Name pr p3) p4, .Assign [.Attribute (.Name ps p5) f2 p6] (.Name pt p7) p8]) (hn : (plainN ps && plainN pr && plainN pt) = true) (bd : Binds K fd [ps, pr, pt] []) : ExOwn K mg P w base x [f, f2] := by
  obtain ⟨hn, n3⟩ := Bool.and_eq_true_iff.mp hn
  obtain ⟨n1, n2⟩ := Bool.and_eq_true_iff.mp hn
  exact ⟨C, fI, fd, _, oexB_of T, iC, tI, exi2 Fn S hb (oexB_of T) hf hf2 n1 n2 n3, bd, hm⟩
theorem clOk_nil : ClOk mg [] := fun _ _ h => by cases h
theorem clOk_cons {x : Str} {l : ClL} (h : mg x = some (.ref C)) (L : ClOk mg l) : ClOk mg ((x, C) :: l) := fun y D hy => by
  rw [List.lookup_cons] at hy
  split at hy
  · rename_i q
    cases hy
    rw [beq_iff_eq.mp q]; exact h
  · exact L y D hy
end
end DG

set_option Elab.async false
set_option linter.all false
set_option maxHeartbeats 4000000
/-! DJh: what a run keeps: rules for equations. -/
namespace DG
open PySem PySem.Spec PyProof.Rows L2
set_option autoImplicit false
/-- r ends with what ok, ex take -/
structure Wp {α : Type} (r : Res α) (ok : α → Env → Prop) (ex : Str → List (Str × D) → Env → Prop) : Prop where
  run : r.run ok ex
section
variable {α β : Type} {ok ok' : α → Env → Prop} {ok2 : β → Env → Prop} {ex ex' : Str → List (Str × D) → Env → Prop}
@[simp] theorem wp_ok (a : α) (e : Env) : Wp (Res.ok a e) ok ex ↔ ok a e := ⟨fun h => h.run, fun h => ⟨h⟩⟩
@[simp] theorem wp_exc (c : Str) (fs : List (Str × D)) (e : Env) : Wp (Res.exc c fs e : Res α) ok ex ↔ ex c fs e := ⟨fun h => h.run, fun h => ⟨h⟩⟩
@[simp] theorem wp_bad : Wp (Res.bad : Res α) ok ex ↔ False := ⟨fun h => h.run, fun h => ⟨h⟩⟩
theorem wp_mono {r : Res α} (h : Wp r ok ex) (k1 : ∀ a e, ok a e → ok' a e) (k2 : ∀ c fs e, ex c fs e → ex' c fs e) : Wp r ok' ex' := by
  cases r with
  | ok a e => exact ⟨k1 _ _ h.run⟩
  | exc c fs e => exact ⟨k2 _ _ _ h.run⟩
  | bad => exact h.run.elim
theorem wp_bnd {r : Res α} {g : α → M β} (h : Wp r (fun a e => Wp (g a e) ok2 ex) ex) : Wp (r.bnd g) ok2 ex := by
  cases r with
  | ok a e => exact h.run
  | exc c fs e => exact ⟨h.run⟩
  | bad => exact h.run.elim
theorem wp_ite {c : Prop} [Decidable c] {x y : Res α} (h1 : c → Wp x ok ex) (h2 : ¬ c → Wp y ok ex) : Wp (if c then x else y) ok ex := by
  split
  · exact h1 ‹_›
  · exact h2 ‹_›
end
section
variable {ok : Fw → Env → Prop} {ex : Str → List (Str × D) → Env → Prop}
/-- behind a statement -/
def sqOk (ok : Fw → Env → Prop) (go : Env → Prop) : Fw → Env → Prop := fun fl e => match fl with
  | .next => go e
  | fl => ok fl e
@[simp] theorem sqOk_next (go : Env → Prop) (e : Env) : sqOk ok go .next e = go e := _root_.id rfl
@[simp] theorem sqOk_ret (go : Env → Prop) (d : D) (e : Env) : sqOk ok go (.ret d) e = ok (.ret d) e := _root_.id rfl
theorem wp_sq {r : Res Fw} {g : M Fw} (h : Wp r (sqOk ok fun e => Wp (g e) ok ex) ex) : Wp (r.sq g) ok ex := by
  cases r with
  | ok fl e => cases fl <;> first | exact h.run | exact ⟨h.run⟩
  | exc c fs e => exact ⟨h.run⟩
  | bad => exact h.run.elim
/-- what a loop's turn may end with -/
def turnOk (ok : Fw → Env → Prop) (go : Env → Prop) : Fw → Env → Prop := fun fl e => match fl with
  | .next => go e
  | .cont => go e
  | .brk => ok .next e
  | .ret d => ok (.ret d) e
theorem wp_loop {α : Type} {ft : D → Env → Option Env} {body : M Fw} {emb : α → D} : ∀ {xs : List α} (I : Nat → Env → Prop) {e : Env}, I 0 e →
    (∀ (i : Nat) (x : α) (e : Env), xs[i]? = some x → I i e → ∃ e1, ft (emb x) e = some e1 ∧ Wp (body e1) (turnOk ok (I (i + 1))) ex) → (∀ e, I xs.length e → ok .next e) → Wp (loopM ft body (xs.map emb) e) ok ex
  | [], I, e, h0, _, h2 => ⟨h2 e h0⟩
  | x :: r, I, e, h0, h1, h2 => by
    obtain ⟨e1, k1, k2⟩ := h1 0 x e rfl h0
    rw [List.map_cons]
    unfold loopM liftT
    rw [bind_app, k1, bnd_ok, bind_app]
    refine wp_bnd (wp_mono k2 (fun fl e2 k => ?_) fun _ _ _ z => z)
    have go : ∀ e, I 1 e → Wp (loopM ft body (r.map emb) e) ok ex := fun e hI => wp_loop (fun i => I (i + 1)) hI (fun i x e hx hI => h1 (i + 1) x e hx hI) h2
    cases fl with
    | next => exact go e2 k
    | cont => exact go e2 k
    | brk => exact ⟨k⟩
    | ret d => exact ⟨k⟩
theorem wp_while {t : M Bool} {body : M Fw} (I : Nat → Env → Prop) : ∀ {n m : Nat} {e : Env}, m < n → I m e → (∀ (m : Nat) (e : Env), I m e → Wp (t e) (fun b e1 => if b = true then ∃ m', m = m' + 1 ∧ Wp (body e1) (turnOk ok (I m')) ex else ok .next e1) ex) → Wp (whileM t body n e) ok ex
  | 0, m, e, h, _, _ => absurd h (Nat.not_lt_zero _)
  | n + 1, m, e, h, hI, k => by
    unfold whileM
    rw [bind_app]
    refine wp_bnd (wp_mono (k m e hI) (fun b e1 q => ?_) fun _ _ _ z => z)
    cases b with
    | false => exact ⟨q⟩
    | true =>
      obtain ⟨m', rfl, q⟩ := q
      rw [if_pos rfl, bind_app]
      refine wp_bnd (wp_mono q (fun fl e2 q => ?_) fun _ _ _ z => z)
      cases fl with
      | next => exact wp_while I (by omega) q k
      | cont => exact wp_while I (by omega) q k
      | brk => exact ⟨q⟩
      | ret d => exact ⟨q⟩
end
theorem fn_run {F : List D → FRes} {n : Nat} {b : M Fw} {ds : List D} (P : FRes → Prop) (hF : F = fnRun n b) (hn : ds.length ≤ n) (h : Wp (b (ds.map some ++ List.replicate (n - ds.length) none)) (fun fl e => P (fnRes (.ok fl e))) (fun c fs e => P (fnRes (.exc c fs e)))) : P (F ds) := by
  rw [hF]
  unfold fnRun
  rw [if_pos hn]
  replace h := h.run
  cases hb : b (ds.map some ++ List.replicate (n - ds.length) none) with
  | ok fl e => rw [hb] at h; exact h
  | exc c fs e => rw [hb] at h; exact h
  | bad => rw [hb] at h; exact h.elim
theorem fn_by {F : List D → FRes} {n : Nat} {b : M Fw} {ds : List D} {r : FRes} (hF : F = fnRun n b) (hn : ds.length ≤ n) (h : Wp (b (ds.map some ++ List.replicate (n - ds.length) none)) (fun fl e => fnRes (.ok fl e) = r) (fun c fs e => fnRes (.exc c fs e) = r)) : F ds = r := fn_run (fun o => o = r) hF hn h
/-! ### lists of plain things -/
section
variable {α : Type} (g : Fl → Fl) (q : Fl → Bool)
theorem mapFL_of {f : α → D} (h : ∀ a, mapF g (f a) = f a) : ∀ l : List α, mapFL g (l.map f) = l.map f
  | [] => rfl
  | a :: l => by rw [List.map_cons, mapFL, h, mapFL_of h l]
theorem allFL_of {f : α → D} (h : ∀ a, allF q (f a) = true) : ∀ l : List α, allFL q (l.map f) = true
  | [] => rfl
  | a :: l => by rw [List.map_cons, allFL, h, allFL_of h l]; rfl
@[simp] theorem mapFL_str (l : List Str) : mapFL g (l.map D.str) = l.map D.str := mapFL_of g (fun _ => rfl) l
@[simp] theorem mapFL_int (l : List Int) : mapFL g (l.map D.int) = l.map D.int := mapFL_of g (fun _ => rfl) l
@[simp] theorem mapFL_bl (l : List Bool) : mapFL g (l.map D.bl) = l.map D.bl := mapFL_of g (fun _ => rfl) l
@[simp] theorem allFL_str (l : List Str) : allFL q (l.map D.str) = true := allFL_of q (fun _ => rfl) l
@[simp] theorem allFL_int (l : List Int) : allFL q (l.map D.int) = true := allFL_of q (fun _ => rfl) l
@[simp] theorem allFL_bl (l : List Bool) : allFL q (l.map D.bl) = true := allFL_of q (fun _ => rfl) l
@[simp] theorem mapFL_strc (h : α → Str) (l : List α) : mapFL g (l.map (D.str ∘ h)) = l.map (D.str ∘ h) := mapFL_of g (fun _ => rfl) l
@[simp] theorem mapFL_intc (h : α → Int) (l : List α) : mapFL g (l.map (D.int ∘ h)) = l.map (D.int ∘ h) := mapFL_of g (fun _ => rfl) l
@[simp] theorem allFL_strc (h : α → Str) (l : List α) : allFL q (l.map (D.str ∘ h)) = true := allFL_of q (fun _ => rfl) l
@[simp] theorem allFL_intc (h : α → Int) (l : List α) : allFL q (l.map (D.int ∘ h)) = true := allFL_of q (fun _ => rfl) l
@[simp] theorem mapFL_strl (h : α → Str) (l : List α) : mapFL g (l.map fun a => D.str (h a)) = l.map fun a => D.str (h a) := mapFL_of g (fun _ => rfl) l
@[simp] theorem mapFL_intl (h : α → Int) (l : List α) : mapFL g (l.map fun a => D.int (h a)) = l.map fun a => D.int (h a) := mapFL_of g (fun _ => rfl) l
@[simp] theorem mapFL_bll (h : α → Bool) (l : List α) : mapFL g (l.map fun a => D.bl (h a)) = l.map fun a => D.bl (h a) := mapFL_of g (fun _ => rfl) l
@[simp] theorem allFL_strl (h : α → Str) (l : List α) : allFL q (l.map fun a => D.str (h a)) = true := allFL_of q (fun _ => rfl) l
@[simp] theorem allFL_intl (h : α → Int) (l : List α) : allFL q (l.map fun a => D.int (h a)) = true := allFL_of q (fun _ => rfl) l
@[simp] theorem allFL_bll (h : α → Bool) (l : List α) : allFL q (l.map fun a => D.bl (h a)) = true := allFL_of q (fun _ => rfl) l
@[simp] theorem mapFL_chars (x : Str) : mapFL g (chars x) = chars x := mapFL_of g (fun _ => rfl) _
@[simp] theorem allFL_chars (x : Str) : allFL q (chars x) = true := allFL_of q (fun _ => rfl) _
end
@[simp] theorem imm_str (x : Str) : imm (.str x) = true := _root_.id rfl
@[simp] theorem imm_int (x : Int) : imm (.int x) = true := _root_.id rfl
@[simp] theorem imm_bl (x : Bool) : imm (.bl x) = true := _root_.id rfl
@[simp] theorem imm_non : imm .non = true := _root_.id rfl
@[simp] theorem imm_tup (ds : List D) : imm (.tup ds) = allFL (fun _ => false) ds := _root_.id rfl
@[simp] theorem imm_lst (f : Fl) (ds : List D) : imm (.lst f ds) = false := _root_.id rfl
@[simp] theorem imm_dk (f : Fl) (ks : List (Key × D)) : imm (.dk f ks) = false := _root_.id rfl
@[simp] theorem imm_dt (f : Fl) (ks : List (List Key × D)) : imm (.dt f ks) = false := _root_.id rfl
@[simp] theorem allF_str (q : Fl → Bool) (x : Str) : allF q (.str x) = true := _root_.id rfl
@[simp] theorem allF_int (q : Fl → Bool) (x : Int) : allF q (.int x) = true := _root_.id rfl
@[simp] theorem allF_bl (q : Fl → Bool) (x : Bool) : allF q (.bl x) = true := _root_.id rfl
@[simp] theorem allF_non (q : Fl → Bool) : allF q .non = true := _root_.id rfl
@[simp] theorem allF_tup (q : Fl → Bool) (ds : List D) : allF q (.tup ds) = allFL q ds := _root_.id rfl
@[simp] theorem allF_lst (q : Fl → Bool) (f : Fl) (ds : List D) : allF q (.lst f ds) = (q f && allFL q ds) := _root_.id rfl
@[simp] theorem allF_dk (q : Fl → Bool) (f : Fl) (ks : List (Key × D)) : allF q (.dk f ks) = (q f && allFK q ks) := _root_.id rfl
@[simp] theorem allFL_nil (q : Fl → Bool) : allFL q [] = true := _root_.id rfl
@[simp] theorem allFL_cons (q : Fl → Bool) (d : D) (ds : List D) : allFL q (d :: ds) = (allF q d && allFL q ds) := _root_.id rfl
@[simp] theorem allFK_nil (q : Fl → Bool) : allFK q [] = true := _root_.id rfl
@[simp] theorem mapFL_nil (g : Fl → Fl) : mapFL g [] = [] := _root_.id rfl
@[simp] theorem mapFL_cons (g : Fl → Fl) (d : D) (ds : List D) : mapFL g (d :: ds) = mapF g d :: mapFL g ds := _root_.id rfl
@[simp] theorem mapF_str (g : Fl → Fl) (x : Str) : mapF g (.str x) = .str x := _root_.id rfl
@[simp] theorem mapF_int (g : Fl → Fl) (x : Int) : mapF g (.int x) = .int x := _root_.id rfl
@[simp] theorem mapF_bl (g : Fl → Fl) (x : Bool) : mapF g (.bl x) = .bl x := _root_.id rfl
@[simp] theorem mapF_non (g : Fl → Fl) : mapF g .non = .non := _root_.id rfl
@[simp] theorem mapF_ty (g : Fl → Fl) (x : String) : mapF g (.ty x) = .ty x := _root_.id rfl
@[simp] theorem mapF_fn (g : Fl → Fl) (x : Str) : mapF g (.fn x) = .fn x := _root_.id rfl
@[simp] theorem mapF_tup (g : Fl → Fl) (ds : List D) : mapF g (.tup ds) = .tup (mapFL g ds) := _root_.id rfl
@[simp] theorem mapF_lst (g : Fl → Fl) (f : Fl) (ds : List D) : mapF g (.lst f ds) = .lst (g f) (mapFL g ds) := _root_.id rfl
@[simp] theorem mapF_dk (g : Fl → Fl) (f : Fl) (ks : List (Key × D)) : mapF g (.dk f ks) = .dk (g f) (mapFK g ks) := _root_.id rfl
@[simp] theorem mapFK_nil (g : Fl → Fl) : mapFK g [] = [] := _root_.id rfl
@[simp] theorem noOwn_own : noOwn .own = false := _root_.id rfl
@[simp] theorem noOwn_fr : noOwn .fr = true := _root_.id rfl
@[simp] theorem noOwn_sh : noOwn .sh = true := _root_.id rfl
@[simp] theorem noOwn_ro : noOwn .ro = true := _root_.id rfl
@[simp] theorem noOwn_lk : noOwn .lk = false := _root_.id rfl
@[simp] theorem noLk_own : noLk .own = true := _root_.id rfl
@[simp] theorem noLk_fr : noLk .fr = true := _root_.id rfl
@[simp] theorem noLk_sh : noLk .sh = true := _root_.id rfl
@[simp] theorem noLk_ro : noLk .ro = true := _root_.id rfl
@[simp] theorem noLk_lk : noLk .lk = false := _root_.id rfl
@[simp] theorem noRo_own : noRo .own = true := _root_.id rfl
@[simp] theorem noRo_fr : noRo .fr = true := _root_.id rfl
@[simp] theorem noRo_sh : noRo .sh = true := _root_.id rfl
@[simp] theorem noRo_ro : noRo .ro = false := _root_.id rfl
@[simp] theorem noRo_lk : noRo .lk = false := _root_.id rfl
@[simp] theorem pasF_own : pasF .own = .own := _root_.id rfl
@[simp] theorem pasF_fr : pasF .fr = .sh := _root_.id rfl
@[simp] theorem pasF_sh : pasF .sh = .sh := _root_.id rfl
@[simp] theorem pasF_ro : pasF .ro = .ro := _root_.id rfl
@[simp] theorem pasF_lk : pasF .lk = .lk := _root_.id rfl
@[simp] theorem shF_fr (io : Bool) : shF io .fr = .fr := _root_.id rfl
@[simp] theorem shF_sh (io : Bool) : shF io .sh = .sh := _root_.id rfl
@[simp] theorem shF_ro (io : Bool) : shF io .ro = .ro := _root_.id rfl
@[simp] theorem shF_lk (io : Bool) : shF io .lk = .lk := _root_.id rfl
@[simp] theorem shF_own0 : shF false .own = .fr := _root_.id rfl
@[simp] theorem shF_own1 : shF true .own = .sh := _root_.id rfl
@[simp] theorem turnOk_next (ok : Fw → Env → Prop) (go : Env → Prop) (e : Env) : turnOk ok go .next e = go e := _root_.id rfl
@[simp] theorem turnOk_cont (ok : Fw → Env → Prop) (go : Env → Prop) (e : Env) : turnOk ok go .cont e = go e := _root_.id rfl
@[simp] theorem turnOk_brk (ok : Fw → Env → Prop) (go : Env → Prop) (e : Env) : turnOk ok go .brk e = ok .next e := _root_.id rfl
@[simp] theorem turnOk_ret (ok : Fw → Env → Prop) (go : Env → Prop) (d : D) (e : Env) : turnOk ok go (.ret d) e = ok (.ret d) e := _root_.id rfl
@[simp] theorem itL_lst (f : Fl) (ds : List D) (e : Env) : itL false (.lst f ds) e = if allF noLk (.lst f ds) = true ∧ allFL noOwn (mapFL (shF false) ds) = true then .ok (mapFL (shF false) ds) e else .bad := by
  show frzL false (.lst f ds) e = _
  unfold frzL
  exact iteM_app _ _ _ e
/-! ### names of lines -/
theorem line_ge {n : Nat} (h : n ≤ 1000000) : n ≤ sizeLine := Nat.le_trans h (by decide)
theorem line_gt {n : Nat} (h : n ≤ 1000000) : n < sizeLine := Nat.lt_of_le_of_lt h (by decide)
theorem atI_get {α : Type} {xs : List α} {i : Int} {x : α} (h0 : 0 ≤ i) (h : xs[i.toNat]? = some x) : atI xs i = some x := by
  have hl := (List.getElem?_eq_some_iff.mp h).1
  unfold atI ixN
  rw [if_pos h0, if_pos (by omega)]
  exact h
theorem atI_last {α : Type} {xs : List α} {x : α} (h : xs.getLast? = some x) : atI xs (-1) = some x := by
  have hne : xs ≠ [] := by rintro rfl; cases h
  have hl : 0 < xs.length := List.length_pos_iff.mpr hne
  unfold atI ixN
  rw [if_neg (by omega), if_pos (by omega)]
  rw [List.getLast?_eq_getElem?] at h
  have : ((-1 : Int) + xs.length).toNat = xs.length - 1 := by omega
  rw [Option.bind_some, this]
  exact h
end DG
namespace DG
open PySem PySem.Spec PyProof.Rows L2
section
theorem killAll_idem (own : List Nat) (e : Env) : killAll own (killAll own e) = killAll own e := by
  apply List.ext_getElem?
  intro i
  have len : ∀ (own : List Nat) (e : Env), (killAll own e).length = e.length := fun own e => by
    induction own with
    | nil => rfl
    | cons a l ih => show ((killAll l e).set a none).length = _; rw [List.length_set, ih]
  have get : ∀ (own : List Nat) (e : Env) (i : Nat), (killAll own e)[i]? = if i ∈ own then (if i < e.length then some none else none) else e[i]? := fun own e i => by
    induction own with
    | nil => rfl
    | cons a l ih =>
      show ((killAll l e).set a none)[i]? = _
      rw [List.getElem?_set]
      by_cases h : a = i
      · subst h
        rw [if_pos rfl, len]
        simp
      · rw [if_neg h, ih]
        by_cases h2 : i ∈ l
        · rw [if_pos h2, if_pos (List.mem_cons_of_mem _ h2)]
        · rw [if_neg h2, if_neg fun z => (List.mem_cons.mp z).elim (fun z => h z.symm) h2]
  rw [get]
  by_cases h : i ∈ own
  · rw [if_pos h, len, get, if_pos h]
  · rw [if_neg h]
/-- a comprehension without a test -/
theorem lcK_map {α : Type} {own : List Nat} {ft : D → Env → Option Env} {fe : M D} {e : Env} (emb : α → D) (g : α → D) (xs : List α) (hl : xs.length ≤ sizeLine)
    (h : ∀ x ∈ xs, ∃ e1, ft (emb x) (killAll own e) = some e1 ∧ ∃ e3, fe e1 = .ok (g x) e3 ∧ killAll own e3 = killAll own e) : lcK own ft (M.ret true) fe (xs.map emb) e = .ok (.lst .own (xs.map g)) (killAll own e) :=
  lcLoop_map1 emb g xs hl (killAll_idem own e) h
theorem lcK_filter {α : Type} {own : List Nat} {ft : D → Env → Option Env} {ftest : M Bool} {fe : M D} {e : Env} (emb : α → D) (P : α → Bool) (g : α → D) (xs : List α) (hl : xs.length ≤ sizeLine)
    (h : ∀ x ∈ xs, ∃ e1, ft (emb x) (killAll own e) = some e1 ∧ ∃ e2, ftest e1 = .ok (P x) e2 ∧ (if P x = true then ∃ e3, fe e2 = .ok (g x) e3 ∧ killAll own e3 = killAll own e else killAll own e2 = killAll own e)) :
    lcK own ft ftest fe (xs.map emb) e = .ok (.lst .own ((xs.filter P).map g)) (killAll own e) := by
  have := lcLoop_map (own := own) (ft := ft) (ftest := ftest) (fe := fe) (e := killAll own e) emb P g xs [] (by simpa using hl) (killAll_idem own e) h
  simpa [lcK] using this
end
end DG
namespace DG
open PySem PySem.Spec PyProof.Rows L2
@[simp] theorem metD_0 : metD 0 = joinD := _root_.id rfl
@[simp] theorem metD_1 : metD 1 = splitD := _root_.id rfl
@[simp] theorem metD_2 : metD 2 = startsD := _root_.id rfl
@[simp] theorem isAny_one (tb : Tab) (a c : CN) : isAny tb a [c] = isOne tb a c := by
  unfold isAny isAny
  cases isOne tb a c with
  | none => rfl
  | some b => cases b <;> rfl
@[simp] theorem isOne_rr (tb : Tab) (u t : String) : isOne tb (.inr u) (.inr t) = kitB u t := _root_.id rfl
@[simp] theorem isOne_ll (tb : Tab) (u t : Str) : isOne tb (.inl u) (.inl t) = tb.lookup (.inl u, .inl t) := _root_.id rfl
@[simp] theorem isOne_lr (tb : Tab) (u : Str) (t : String) : isOne tb (.inl u) (.inr t) = tb.lookup (.inl u, .inr t) := _root_.id rfl
@[simp] theorem isOne_rl (tb : Tab) (u : String) (t : Str) : isOne tb (.inr u) (.inl t) = tb.lookup (.inr u, .inl t) := _root_.id rfl
def isi1 (tb : Tab) (xc : List Str) (a : Option CN) (c : CN) : Option Nw := match a with
  | some a => if cnOk xc a = true then (isOne tb a c).map fun b => .sc (.bl b) else none
  | none => none
@[simp] theorem isiT_ty (tb : Tab) (xc : List Str) (d : D) (t : String) : isiT tb xc [d, .ty t] = isi1 tb xc (clsD d) (.inr t) := by
  show (match clsD d, (some [(Sum.inr t : CN)]) with | some a, some cs => _ | _, _ => _) = _
  cases clsD d with
  | none => rfl
  | some a => simp only [isi1, isAny_one]
@[simp] theorem isiT_fn (tb : Tab) (xc : List Str) (d : D) (t : Str) : isiT tb xc [d, .fn t] = isi1 tb xc (clsD d) (.inl t) := by
  show (match clsD d, (some [(Sum.inl t : CN)]) with | some a, some cs => _ | _, _ => _) = _
  cases clsD d with
  | none => rfl
  | some a => simp only [isi1, isAny_one]
@[simp] theorem isi1_r (tb : Tab) (xc : List Str) (u : String) (c : CN) : isi1 tb xc (some (.inr u)) c = (isOne tb (.inr u) c).map fun b => .sc (.bl b) := _root_.id rfl
@[simp] theorem isi1_l (tb : Tab) (xc : List Str) (u : Str) (c : CN) : isi1 tb xc (some (.inl u)) c = if u ∈ xc then (isOne tb (.inl u) c).map fun b => .sc (.bl b) else none := by
  unfold isi1 cnOk; simp
@[simp] theorem clsD_exc (f : Fl) (c : Str) (fs : List (Str × D)) : clsD (.exc f c fs) = some (.inl c) := _root_.id rfl
@[simp] theorem clsD_str (x : Str) : clsD (.str x) = some (.inr "str") := _root_.id rfl
@[simp] theorem clsD_int (x : Int) : clsD (.int x) = some (.inr "int") := _root_.id rfl
@[simp] theorem clsD_bl (x : Bool) : clsD (.bl x) = some (.inr "bool") := _root_.id rfl
@[simp] theorem clsD_non : clsD .non = some (.inr "NoneType") := _root_.id rfl
@[simp] theorem clsD_tup (ds : List D) : clsD (.tup ds) = some (.inr "tuple") := _root_.id rfl
@[simp] theorem clsD_lst (f : Fl) (ds : List D) : clsD (.lst f ds) = some (.inr "list") := _root_.id rfl
@[simp] theorem clsD_dk (f : Fl) (ks : List (Key × D)) : clsD (.dk f ks) = some (.inr "dict") := _root_.id rfl
@[simp] theorem splitD_str (x y : Str) : splitD (.str x) [.str y] = if (y.length == 0) = false ∧ x.length + 2 ≤ sizeLine then some (.nl ((Txt.split x y).map .str)) else none := _root_.id rfl
theorem joinD_lst (x : Str) (f : Fl) (ds : List D) : joinD (.str x) [.lst f ds] = (strsD ds).bind fun ys => if (ys.map (·.length)).sum + ys.length * x.length ≤ bigT then some (.sc (.str (Txt.join x ys))) else none := _root_.id rfl
@[simp] theorem strsD_str : ∀ l : List Str, strsD (l.map D.str) = some l
  | [] => rfl
  | x :: l => by rw [List.map_cons]; show (strsD _).map _ = _; rw [strsD_str l]; rfl
end DG
namespace DG
open PySem PySem.Spec PyProof.Rows L2
@[simp] theorem enumL_lst (f : Fl) (ds : List D) (e : Env) : enumL false (.lst f ds) e = if allF noLk (.lst f ds) = true ∧ allFL noOwn (mapFL (shF false) ds) = true then .ok (enumD 0 (mapFL (shF false) ds)) e else .bad := by
  unfold enumL frzD
  dsimp only
  split <;> rfl
@[simp] theorem zipL_lst (f g : Fl) (as bs : List D) (e : Env) : zipL false (.lst f as) (.lst g bs) e = if (allF noLk (.lst f as) = true ∧ allFL noOwn (mapFL (shF false) as) = true) ∧ allF noLk (.lst g bs) = true ∧ allFL noOwn (mapFL (shF false) bs) = true then .ok (zipD (mapFL (shF false) as) (mapFL (shF false) bs)) e else .bad := by
  show zipLL false _ _ e = _
  unfold zipLL frzD
  dsimp only
  by_cases h1 : allF noLk (.lst f as) = true ∧ allFL noOwn (mapFL (shF false) as) = true
  · by_cases h2 : allF noLk (.lst g bs) = true ∧ allFL noOwn (mapFL (shF false) bs) = true
    · rw [if_pos h1, if_pos h2, if_pos ⟨h1, h2⟩]; rfl
    · rw [if_pos h1, if_neg h2, if_neg fun z => h2 z.2]; rfl
  · rw [if_neg h1]
    exact (if_neg fun z => h1 z.1).symm
@[simp] theorem zipL_str (x y : Str) (e : Env) : zipL false (.str x) (.str y) e = .ok (zipD (chars x) (chars y)) e := _root_.id rfl
theorem enumD_map {α : Type} (f : α → D) : ∀ (l : List α) (n : Nat), enumD n (l.map f) = (l.zipIdx n).map fun q => .tup [.int (q.2 : Nat), f q.1]
  | [], n => rfl
  | x :: l, n => by
    rw [List.map_cons, List.zipIdx_cons, List.map_cons, ← enumD_map f l (n + 1)]; rfl
theorem zipD_map {α β : Type} (f : α → D) (g : β → D) : ∀ (a : List α) (b : List β), zipD (a.map f) (b.map g) = (a.zip b).map fun q => .tup [f q.1, g q.2]
  | [], b => by cases b <;> rfl
  | a :: as, [] => rfl
  | a :: as, b :: bs => by
    rw [List.map_cons, List.map_cons, List.zip_cons_cons, List.map_cons, ← zipD_map f g as bs]; rfl
end DG
namespace DG
open PySem PySem.Spec PyProof.Rows L2
@[simp] theorem allFS_nil (q : Fl → Bool) : allFS q [] = true := _root_.id rfl
@[simp] theorem allFS_cons (q : Fl → Bool) (k : Str) (d : D) (ds : List (Str × D)) : allFS q ((k, d) :: ds) = (allF q d && allFS q ds) := _root_.id rfl
@[simp] theorem fnRes_exc (c : Str) (fs : List (Str × D)) (e : Env) : fnRes (.exc c fs e) = if allFS noRo fs = true then .exc c fs else .bad := _root_.id rfl
@[simp] theorem fnRes_next (e : Env) : fnRes (.ok .next e) = .ok .non := _root_.id rfl
def outR (o : Option D) : FRes := match o with
  | some d => .ok d
  | none => .bad
@[simp] theorem outR_some (d : D) : outR (some d) = .ok d := _root_.id rfl
@[simp] theorem fnRes_lst (f : Fl) (ds : List D) (e : Env) : fnRes (.ok (.ret (.lst f ds)) e) = outR (outD (.lst f ds)) := by
  show (match outD _ with | some d' => _ | none => _) = _
  cases outD (.lst f ds) <;> rfl
@[simp] theorem fnRes_tup (ds : List D) (e : Env) : fnRes (.ok (.ret (.tup ds)) e) = outR (outD (.tup ds)) := by
  show (match outD _ with | some d' => _ | none => _) = _
  cases outD (.tup ds) <;> rfl
@[simp] theorem fnRes_dk (f : Fl) (ks : List (Key × D)) (e : Env) : fnRes (.ok (.ret (.dk f ks)) e) = outR (outD (.dk f ks)) := by
  show (match outD _ with | some d' => _ | none => _) = _
  cases outD (.dk f ks) <;> rfl
@[simp] theorem outD_fr (ds : List D) : outD (.lst .fr ds) = if immL ds = true then some (.lst .own ds) else if allFL noRo ds = true then some (.lst .fr ds) else none := _root_.id rfl
@[simp] theorem outD_own (ds : List D) : outD (.lst .own ds) = if allFL noRo ds = true then some (.lst .own ds) else none := _root_.id rfl
@[simp] theorem outD_tup (ds : List D) : outD (.tup ds) = if allFL noRo ds = true then some (.tup ds) else none := _root_.id rfl
@[simp] theorem outD_dk (f : Fl) (ks : List (Key × D)) : outD (.dk f ks) = if (noRo f && allFK noRo ks) = true then some (.dk f ks) else none := _root_.id rfl
end DG
namespace DG
open PySem PySem.Spec PyProof.Rows L2
@[simp] theorem lmOp_0 : lmOp 0 = appO := _root_.id rfl
@[simp] theorem lmOp_1 : lmOp 1 = popO := _root_.id rfl
@[simp] theorem lmOp_2 : lmOp 2 = clearO := _root_.id rfl
@[simp] theorem lmOp_3 : lmOp 3 = insO := _root_.id rfl
@[simp] theorem appO_one (ds : List D) (d : D) : appO ds [d] = if ds.length < sizeLine then some (ds ++ [d], .non) else none := _root_.id rfl
@[simp] theorem popO_nil (ds : List D) : popO ds [] = ds[ds.length - 1]?.map fun d => (ds.dropLast, d) := _root_.id rfl
@[simp] theorem clearO_nil (ds : List D) : clearO ds [] = some ([], .non) := _root_.id rfl
/-- a list's method at a name -/
theorem lmK_slot {op : OpL} {g : M (List D)} {i : Nat} {f : Fl} {ds : List D} {e : Env} (h : e[i]? = some (some (.lst f ds))) : lmK op g (i, []) e = (g e).bnd (lmK2 op (i, [])) := lmK_app (f := f) (ds := ds) (by unfold atP; rw [h]; rfl)
theorem lmK2_slot {op : OpL} {i : Nat} {ds as : List D} {e : Env} (h : e[i]? = some (some (.lst .own ds))) : lmK2 op (i, []) as e = match op ds as with | some (ds', d) => .ok d (e.set i (some (.lst .own ds'))) | none => .bad := by
  rw [lmK2_app (ds := ds) (by unfold atP; rw [h]; rfl)]
  have : ∀ d, setAt (i, []) d e = e.set i (some d) := fun d => by unfold setAt; rw [h]; rfl
  simp only [this]
  all_goals (cases op ds as <;> rfl)
end DG
namespace DG
open PySem PySem.Spec PyProof.Rows L2
@[simp] theorem blt_int_bl (b : Bool) : bltD 9 [.bl b] = some (.sc (.int (if b = true then 1 else 0))) := _root_.id rfl
@[simp] theorem blt_int_int (i : Int) : bltD 9 [.int i] = some (.sc (.int i)) := _root_.id rfl
@[simp] theorem blt_10 : bltD 10 = sorD := _root_.id rfl
@[simp] theorem blt_11 : bltD 11 = tupD := _root_.id rfl
@[simp] theorem tupD_lst (f : Fl) (ds : List D) : tupD [.lst f ds] = some (.nt ds) := _root_.id rfl
@[simp] theorem atI_zero {α : Type} (a : α) (l : List α) : atI (a :: l) 0 = some a := by unfold atI ixN; simp
@[simp] theorem atI_one {α : Type} (a b : α) (l : List α) : atI (a :: b :: l) 1 = some b := by
  unfold atI ixN
  rw [if_pos (by omega), if_pos (by rw [List.length_cons, List.length_cons]; omega)]
  rfl
@[simp] theorem atI_two {α : Type} (a b c : α) (l : List α) : atI (a :: b :: c :: l) 2 = some c := by
  unfold atI ixN
  rw [if_pos (by omega), if_pos (by rw [List.length_cons, List.length_cons, List.length_cons]; omega)]
  rfl
@[simp] theorem str_ne {x y : Str} : (D.str x = D.str y) = (x = y) := by simp
end DG
namespace DG
open PySem PySem.Spec PyProof.Rows L2
theorem atP_slot (i : Nat) (e : Env) : atP (i, []) e = e[i]?.join := by
  unfold atP
  cases h : e[i]? with
  | none => rfl
  | some o => cases o <;> rfl
theorem setAt_slot {i : Nat} {e : Env} {d : D} (h : e[i]? = some (some d)) (d' : D) : setAt (i, []) d' e = e.set i (some d') := by unfold setAt; rw [h]; rfl
def lmSel (o : Option (Option D)) (r : Res D) : Res D := match o with
  | some (some (.lst _ _)) => r
  | _ => .bad
@[simp] theorem lmSel_lst (f : Fl) (ds : List D) (r : Res D) : lmSel (some (some (.lst f ds))) r = r := _root_.id rfl
@[simp] theorem lmK_at (op : OpL) (g : M (List D)) (i : Nat) (e : Env) : lmK op g (i, []) e = lmSel e[i]? ((g e).bnd (lmK2 op (i, []))) := by
  unfold lmK lmSel
  rw [atP_slot]
  cases h : e[i]? with
  | none => rfl
  | some o =>
    cases o with
    | none => rfl
    | some d => cases d <;> first | rfl | exact bind_app ..
def lmEnd (r : Option (List D × D)) (i : Nat) (e : Env) : Res D := match r with
  | some (ds', d) => .ok d (e.set i (some (.lst .own ds')))
  | none => .bad
@[simp] theorem lmEnd_some (ds : List D) (d : D) (i : Nat) (e : Env) : lmEnd (some (ds, d)) i e = .ok d (e.set i (some (.lst .own ds))) := _root_.id rfl
@[simp] theorem lmEnd_none (i : Nat) (e : Env) : lmEnd none i e = .bad := _root_.id rfl
@[simp] theorem lmEnd_ite (c : Prop) [Decidable c] (a b : Option (List D × D)) (i : Nat) (e : Env) : lmEnd (if c then a else b) i e = if c then lmEnd a i e else lmEnd b i e := by split <;> rfl
def lmSel2 (o : Option (Option D)) (op : OpL) (as : List D) (i : Nat) (e : Env) : Res D := match o with
  | some (some (.lst .own ds)) => lmEnd (op ds as) i e
  | _ => .bad
@[simp] theorem lmSel2_own (ds : List D) (op : OpL) (as : List D) (i : Nat) (e : Env) : lmSel2 (some (some (.lst .own ds))) op as i e = lmEnd (op ds as) i e := _root_.id rfl
@[simp] theorem lmK2_at (op : OpL) (as : List D) (i : Nat) (e : Env) : lmK2 op (i, []) as e = lmSel2 e[i]? op as i e := by
  unfold lmK2 lmSel2
  rw [atP_slot]
  cases h : e[i]? with
  | none => rfl
  | some o =>
    cases o with
    | none => rfl
    | some d =>
      cases d with
      | lst f ds =>
        cases f <;> first | rfl | skip
        show (match op ds as with | some (ds', d) => Res.ok d (setAt (i, []) (.lst .own ds') e) | none => Res.bad) = lmEnd (op ds as) i e
        cases op ds as with
        | none => rfl
        | some q => show Res.ok q.2 (setAt (i, []) _ e) = _; rw [setAt_slot h]; rfl
      | _ => rfl
def stoSel (o : Option (Option D)) (i : Nat) (k v : D) (e : Env) : Option Env := match o, k with
  | some (some (.lst .own ds)), .int j => (ixN ds.length j).map fun n => e.set i (some (.lst .own (ds.set n v)))
  | some (some (.dk .own ks)), .str x => if ks.length < sizeLine then some (e.set i (some (.dk .own (setA ks (.inr x) v)))) else none
  | some (some (.dk .own ks)), .int x => if ks.length < sizeLine then some (e.set i (some (.dk .own (setA ks (.inl x) v)))) else none
  | some (some (.dt .own ks)), .tup ds => (match keysD ds with
    | some k => if ks.length < sizeLine then some (e.set i (some (.dt .own (setA ks k v)))) else none
    | none => none)
  | _, _ => none
@[simp] theorem stoSel_lst (ds : List D) (i : Nat) (j : Int) (v : D) (e : Env) : stoSel (some (some (.lst .own ds))) i (.int j) v e = (ixN ds.length j).map fun n => e.set i (some (.lst .own (ds.set n v))) := _root_.id rfl
@[simp] theorem stoSel_ks (ks : List (Key × D)) (i : Nat) (x : Str) (v : D) (e : Env) : stoSel (some (some (.dk .own ks))) i (.str x) v e = if ks.length < sizeLine then some (e.set i (some (.dk .own (setA ks (.inr x) v)))) else none := _root_.id rfl
@[simp] theorem stoSel_ki (ks : List (Key × D)) (i : Nat) (x : Int) (v : D) (e : Env) : stoSel (some (some (.dk .own ks))) i (.int x) v e = if ks.length < sizeLine then some (e.set i (some (.dk .own (setA ks (.inl x) v)))) else none := _root_.id rfl
@[simp] theorem optE_ite (c : Prop) [Decidable c] (a b : Option Env) : optE (if c then a else b) = if c then optE a else optE b := by split <;> rfl
@[simp] theorem optE_none : optE none = .bad := _root_.id rfl
end DG
namespace DG
open PySem PySem.Spec PyProof.Rows L2
@[simp] theorem stoE_at (i : Nat) (k v : D) (e : Env) : stoE (i, []) k v e = stoSel e[i]? i k v e := by
  unfold stoE stoSel
  rw [atP_slot]
  cases h : e[i]? with
  | none => rfl
  | some o =>
    cases o with
    | none => rfl
    | some d =>
      have s := fun d' => setAt_slot h d'
      cases d with
      | lst f ds => cases f <;> first | rfl | (cases k <;> first | rfl | simp only [s, Option.join_some])
      | dk f ds => cases f <;> first | rfl | (cases k <;> first | rfl | simp only [s, Option.join_some])
      | dt f ds => cases f <;> first | rfl | (cases k <;> first | rfl | (simp only [s, Option.join_some] <;> rfl))
      | _ => rfl
end DG
namespace DG
open PySem PySem.Spec PyProof.Rows L2
theorem toPyL_str : ∀ l : List Str, toPyL (l.map D.str) = some (l.map .str)
  | [] => rfl
  | x :: l => by rw [List.map_cons]; unfold toPyL; rw [toPyL_str l]; rfl
theorem lay_strs : ∀ l : List Str, l.all PyData.strOk = true → PyData.canLayAll0 (l.map .str) = true
  | [], _ => by simp [PyData.canLayAll0]
  | x :: l, h => by
    rw [List.all_cons, Bool.and_eq_true] at h
    simp [PyData.canLayAll0, PyData.canLay0, lay_strs l h.2, h.1]
theorem depth_strs : ∀ l : List Str, PyData.depthAll (l.map .str) = 0
  | [] => by simp [PyData.depthAll]
  | x :: l => by simp [PyData.depthAll, PyData.depth, depth_strs l]
theorem eqv_strs : ∀ l m : List Str, PyData.eqvAll (l.map .str) (m.map .str) = decide (l = m)
  | [], [] => by simp [PyData.eqvAll]
  | [], _ :: _ => by simp [PyData.eqvAll]
  | _ :: _, [] => by simp [PyData.eqvAll]
  | x :: l, y :: m => by
    rw [List.map_cons, List.map_cons, PyData.eqvAll, eqv_strs l m]
    by_cases h : x = y
    · subst h; by_cases h2 : l = m <;> simp [PyData.eqv, h2]
    · simp [PyData.eqv, h]
theorem shp_strs (f : Fl) {l : List Str} (hl : l.all PyData.strOk = true) : shp (.lst f (l.map .str)) = some (.list (l.map .str)) := by
  unfold shp toPy
  rw [toPyL_str]
  show (if SeqAt.shaped (.list (l.map .str)) = true then _ else _) = _
  rw [if_pos]
  show ((PyData.list (l.map .str)).canLay0 && decide ((PyData.list (l.map .str)).depth ≤ 64)) = true
  have d : (PyData.list (l.map .str)).depth ≤ 64 := by simp [PyData.depth, depth_strs l]
  rw [decide_eq_true d, Bool.and_true]
  simp [PyData.canLay0, lay_strs l hl]
theorem eqB_strs (f g : Fl) {l m : List Str} (hl : l.all PyData.strOk = true) (hm : m.all PyData.strOk = true) : eqB (.lst f (l.map .str)) (.lst g (m.map .str)) = some (decide (l = m)) := by
  unfold eqB
  rw [shp_strs f hl, shp_strs g hm]
  show some (PyData.eqv _ _) = _
  rw [show PyData.eqv (.list (l.map .str)) (.list (m.map .str)) = PyData.eqvAll (l.map .str) (m.map .str) by simp [PyData.eqv], eqv_strs]
@[simp] theorem eqD_strs (f g : Fl) {l m : List Str} (hl : l.all PyData.strOk = true) (hm : m.all PyData.strOk = true) : eqD (.lst f (l.map .str)) (.lst g (m.map .str)) = some (.sc (.bl (decide (l = m)))) := by unfold eqD; rw [eqB_strs f g hl hm]; rfl
@[simp] theorem neD_strs (f g : Fl) {l m : List Str} (hl : l.all PyData.strOk = true) (hm : m.all PyData.strOk = true) : neD (.lst f (l.map .str)) (.lst g (m.map .str)) = some (.sc (.bl (!decide (l = m)))) := by unfold neD; rw [eqB_strs f g hl hm]; rfl
end DG
namespace DG
open PySem PySem.Spec PyProof.Rows L2
/-- l[lo:hi] -/
def cutL {α : Type} (l : List α) (lo hi : Option Int) : List α := (l.drop (HT.sIx l.length 0 lo)).take (HT.sIx l.length l.length hi - HT.sIx l.length 0 lo)
theorem cutD_map {α : Type} (f : α → D) (l : List α) (lo hi : Option Int) : cutD (l.map f) lo hi = (cutL l lo hi).map f := by
  unfold cutD cutL
  rw [List.length_map, ← List.map_drop, ← List.map_take]
theorem cutL_len {α : Type} (l : List α) (lo hi : Option Int) : (cutL l lo hi).length ≤ l.length := by
  unfold cutL
  rw [List.length_take, List.length_drop]; omega
theorem cutL_mem {α : Type} {l : List α} {lo hi : Option Int} {x : α} (h : x ∈ cutL l lo hi) : x ∈ l := List.mem_of_mem_drop (List.mem_of_mem_take h)
@[simp] theorem sliceD_lst (f : Fl) (ds : List D) (lo hi : Option Int) : sliceD lo hi (.lst f ds) = some (.nl (cutD ds lo hi)) := _root_.id rfl
@[simp] theorem sliceD_str (x : Str) (lo hi : Option Int) : sliceD lo hi (.str x) = if x.length ≤ sizeLine then some (.sc (.str (cutS x lo hi))) else none := _root_.id rfl
@[simp] theorem cutD_int (l : List Int) (lo hi : Option Int) : cutD (l.map D.int) lo hi = (cutL l lo hi).map D.int := cutD_map _ _ _ _
@[simp] theorem cutD_str (l : List Str) (lo hi : Option Int) : cutD (l.map D.str) lo hi = (cutL l lo hi).map D.str := cutD_map _ _ _ _
@[simp] theorem addD_lst (f g : Fl) (as bs : List D) : addD (.lst f as) (.lst g bs) = if as.length + bs.length ≤ sizeLine ∧ immL (as ++ bs) = true then some (.nl (as ++ bs)) else none := _root_.id rfl
@[simp] theorem allFL_app (q : Fl → Bool) : ∀ as bs : List D, allFL q (as ++ bs) = (allFL q as && allFL q bs)
  | [], bs => by simp
  | a :: as, bs => by rw [List.cons_append, allFL_cons, allFL_app q as bs, allFL_cons, Bool.and_assoc]
@[simp] theorem mapFL_app (g : Fl → Fl) : ∀ as bs : List D, mapFL g (as ++ bs) = mapFL g as ++ mapFL g bs
  | [], bs => by simp
  | a :: as, bs => by rw [List.cons_append, mapFL_cons, mapFL_app g as bs, mapFL_cons, List.cons_append]
end DG

set_option Elab.async false
set_option linter.all false
set_option maxHeartbeats 4000000
/-! DKa: what sorted tells of lists of plain things; the one sorted list. -/
namespace DG
open PySem PySem.Spec PyProof.Rows L2
set_option autoImplicit false
/-- things of type α, as data: they can be sorted -/
structure SE {α : Type} (emb : α → D) (py : α → PyData) : Prop where
  to : ∀ a, toPy (emb a) = some (py a)
  alk : ∀ a b, PySem.W.alike (py a) (py b) = true
  cls : (∀ a, isTupP (py a) = true) ∨ (∀ a, okOneP (py a) = true)
  dep : ∀ a, (py a).depth ≤ 60
  inj : ∀ a b, PySem.W.keyToks (py a) = PySem.W.keyToks (py b) → a = b
section
variable {α : Type} (py : α → PyData)
def ltA (a b : α) : Bool := PySem.W.dataLt (py a) (py b)
def leA (a b : α) : Bool := !PySem.W.dataLt (py b) (py a)
def sortA (l : List α) : List α := l.mergeSort (leA py)
theorem leA_total (a b : α) : (leA py a b || leA py b a) = true := by
  unfold leA
  cases h1 : PySem.W.dataLt (py b) (py a) with
  | false => rfl
  | true =>
    cases h2 : PySem.W.dataLt (py a) (py b) with
    | false => rfl
    | true =>
      have := PyProof.Rows.lex_trans (O := PyProof.Rows.itemOrd) _ _ _ h1 h2
      rw [PyProof.Rows.lex_irrefl] at this
      cases this
theorem leA_trans (a b c : α) (h1 : leA py a b = true) (h2 : leA py b c = true) : leA py a c = true := by
  unfold leA at *
  rw [Bool.not_eq_true'] at *
  cases h : PySem.W.dataLt (py c) (py a) with
  | false => rfl
  | true =>
    rcases PyProof.Rows.lex_negTrans (O := PyProof.Rows.itemOrd) _ (PySem.W.keyToks (py b)) _ h with z | z
    · rw [show PyProof.Rows.lexLt PyProof.Rows.itemOrd (PySem.W.keyToks (py c)) (PySem.W.keyToks (py b)) = false from h2] at z; cases z
    · rw [show PyProof.Rows.lexLt PyProof.Rows.itemOrd (PySem.W.keyToks (py b)) (PySem.W.keyToks (py a)) = false from h1] at z; cases z
theorem sortA_perm (l : List α) : (sortA py l).Perm l := List.mergeSort_perm l _
theorem sortA_mem {l : List α} {a : α} : a ∈ sortA py l ↔ a ∈ l := List.mem_mergeSort
theorem sortA_len (l : List α) : (sortA py l).length = l.length := List.length_mergeSort l
theorem sortA_pw (l : List α) : (sortA py l).Pairwise (fun a b => leA py a b = true) := List.pairwise_mergeSort (leA_trans py) (leA_total py) l
end
section
variable {α : Type} {emb : α → D} {py : α → PyData}
theorem SE.anti (S : SE emb py) {a b : α} (h1 : leA py a b = true) (h2 : leA py b a = true) : a = b := by
  unfold leA at h1 h2
  rw [Bool.not_eq_true'] at h1 h2
  exact S.inj a b (PyProof.Rows.lex_total (O := PyProof.Rows.itemOrd) _ _ h2 h1)
theorem SE.refl (S : SE emb py) (a : α) : leA py a a = true := by
  unfold leA
  rw [show PySem.W.dataLt (py a) (py a) = false from PyProof.Rows.lex_irrefl (O := PyProof.Rows.itemOrd) _]; rfl
/-- in order, and as many of each: one list -/
theorem SE.uniq (S : SE emb py) : ∀ {l m : List α}, l.Pairwise (fun a b => leA py a b = true) → m.Pairwise (fun a b => leA py a b = true) → l.Perm m → l = m
  | [], m, _, _, p => (List.nil_perm.mp p).symm ▸ rfl
  | a :: l, [], _, _, p => by have := p.length_eq; simp at this
  | a :: l, b :: m, h1, h2, p => by
    have e : a = b := by
      have ma : a ∈ b :: m := p.mem_iff.mp List.mem_cons_self
      have mb : b ∈ a :: l := p.mem_iff.mpr List.mem_cons_self
      rcases List.mem_cons.mp ma with z | z
      · exact z
      · rcases List.mem_cons.mp mb with y | y
        · exact y.symm
        · exact S.anti ((List.pairwise_cons.mp h1).1 b y) ((List.pairwise_cons.mp h2).1 a z)
    subst e
    rw [S.uniq (List.pairwise_cons.mp h1).2 (List.pairwise_cons.mp h2).2 (List.Perm.cons_inv p)]
theorem SE.sort_congr (S : SE emb py) {l m : List α} (p : l.Perm m) : sortA py l = sortA py m :=
  S.uniq (sortA_pw py l) (sortA_pw py m) ((sortA_perm py l).trans (p.trans (sortA_perm py m).symm))
theorem SE.sort_eq (S : SE emb py) {l m : List α} (h : m.Pairwise (fun a b => leA py a b = true)) (p : l.Perm m) : sortA py l = m :=
  S.uniq (sortA_pw py l) h ((sortA_perm py l).trans p)
theorem nodup_perm {l m : List α} (h1 : l.Nodup) (h2 : m.Nodup) (h : ∀ a, a ∈ l ↔ a ∈ m) : l.Perm m := by
  induction l generalizing m with
  | nil =>
    have : m = [] := List.eq_nil_iff_forall_not_mem.mpr fun a ha => by have := (h a).mpr ha; cases this
    rw [this]
  | cons x l ih =>
    obtain ⟨hx, h1'⟩ := List.nodup_cons.mp h1
    have mx : x ∈ m := (h x).mp List.mem_cons_self
    obtain ⟨s, t, rfl⟩ := List.append_of_mem mx
    have p : (s ++ x :: t).Perm (x :: (s ++ t)) := List.perm_middle
    have h2' := p.nodup_iff.mp h2
    obtain ⟨nx, n2⟩ := List.nodup_cons.mp h2'
    refine (List.Perm.cons x (ih h1' n2 fun a => ?_)).trans p.symm
    have hm : a ∈ s ++ x :: t ↔ a = x ∨ a ∈ s ++ t := by rw [p.mem_iff, List.mem_cons]
    constructor
    · intro ha
      rcases hm.mp ((h a).mp (List.mem_cons_of_mem _ ha)) with z | z
      · subst z; exact absurd ha hx
      · exact z
    · intro ha
      have : a ∈ x :: l := (h a).mpr (hm.mpr (.inr ha))
      rcases List.mem_cons.mp this with z | z
      · subst z; exact absurd ha nx
      · exact z
/-- the same things, none twice: one sorted list -/
theorem SE.sort_set (S : SE emb py) {l m : List α} (h1 : l.Nodup) (h2 : m.Nodup) (h : ∀ a, a ∈ l ↔ a ∈ m) : sortA py l = sortA py m := S.sort_congr (nodup_perm h1 h2 h)
theorem SE.toL (S : SE emb py) : ∀ l : List α, toPyL (l.map emb) = some (l.map py)
  | [] => rfl
  | a :: l => by
    rw [List.map_cons]
    unfold toPyL
    rw [S.to a, S.toL l]; rfl
theorem SE.srtB (S : SE emb py) (l : List α) : srtB (l.map py) = true := by
  unfold DG.srtB alkB
  simp only [Bool.and_eq_true, Bool.or_eq_true, List.all_eq_true, List.mem_map, decide_eq_true_eq]
  refine ⟨⟨?_, ?_⟩, ?_⟩
  · rintro _ ⟨a, _, rfl⟩ _ ⟨b, _, rfl⟩; exact S.alk a b
  · refine S.cls.imp (fun h => ?_) fun h => ?_
    · rintro _ ⟨a, _, rfl⟩; exact h a
    · rintro _ ⟨a, _, rfl⟩; exact h a
  · rintro _ ⟨a, _, rfl⟩; exact S.dep a
theorem SE.srt (S : SE emb py) (l : List α) : srt (l.map emb) = some (.nl ((sortA py l).map emb)) := by
  unfold DG.srt
  rw [S.toL, Option.bind_some, if_pos (S.srtB l)]
  congr 2
  unfold sortDs sortA
  have hz : (l.map emb).zip (l.map py) = l.map fun a => (emb a, py a) := by rw [List.zip_map, List.zip_eq_zipWith]; induction l with
    | nil => rfl
    | cons a l ih => simp only [List.zipWith_cons_cons, List.map_cons, ih]; rfl
  have m := List.map_mergeSort (r := leA py) (s := PySem.W.dataLe false fun b : D × PyData => b.2) (f := fun a => (emb a, py a)) (l := l) fun a _ b _ => rfl
  rw [hz, ← m, List.map_map]
  rfl
theorem SE.sorD (S : SE emb py) (f : Fl) (l : List α) : sorD [.lst f (l.map emb)] = some (.nl ((sortA py l).map emb)) := S.srt l
end
/-! ### texts, numbers, pairs, triples -/
def py1 : Str → PyData := .str
def e2 (p : Str × Str) : D := .tup [.str p.1, .str p.2]
def py2 (p : Str × Str) : PyData := .tuple [.str p.1, .str p.2]
def e3 (p : Str × Str × Str) : D := .tup [.str p.1, .str p.2.1, .str p.2.2]
def py3 (p : Str × Str × Str) : PyData := .tuple [.str p.1, .str p.2.1, .str p.2.2]
def eI2 (p : Int × Int) : D := .tup [.int p.1, .int p.2]
def pyI2 (p : Int × Int) : PyData := .tuple [.int p.1, .int p.2]
def eL (f : Fl) (l : List Str) : D := .lst f (l.map .str)
def pyL (l : List Str) : PyData := .list (l.map .str)
theorem se1 : SE D.str py1 := ⟨fun _ => rfl, fun _ _ => rfl, .inr fun _ => rfl, fun _ => by simp [py1, PyData.depth], fun a b h => by
  simp only [py1, PySem.W.keyToks, List.cons.injEq, Sum.inr.injEq, and_true] at h
  exact PySem.W.str_of_cps h⟩
theorem seI : SE D.int PyData.int := ⟨fun _ => rfl, fun _ _ => rfl, .inr fun _ => rfl, fun _ => by simp [PyData.depth], fun a b h => by simpa [PySem.W.keyToks] using h⟩
theorem se2 : SE e2 py2 := ⟨fun _ => rfl, fun _ _ => rfl, .inl fun _ => rfl, fun _ => by simp [py2, PyData.depth, PyData.depthAll], fun a b h => by
  simp only [py2, PySem.W.keyToks, PySem.W.keyToksAll, List.cons_append, List.nil_append, List.cons.injEq, Sum.inr.injEq, and_true, true_and] at h
  exact Prod.ext (PySem.W.str_of_cps h.1) (PySem.W.str_of_cps h.2)⟩
theorem se3 : SE e3 py3 := ⟨fun _ => rfl, fun _ _ => rfl, .inl fun _ => rfl, fun _ => by simp [py3, PyData.depth, PyData.depthAll], fun a b h => by
  simp only [py3, PySem.W.keyToks, PySem.W.keyToksAll, List.cons_append, List.nil_append, List.cons.injEq, Sum.inr.injEq, and_true, true_and] at h
  exact Prod.ext (PySem.W.str_of_cps h.1) (Prod.ext (PySem.W.str_of_cps h.2.1) (PySem.W.str_of_cps h.2.2))⟩
theorem seI2 : SE eI2 pyI2 := ⟨fun _ => rfl, fun _ _ => rfl, .inl fun _ => rfl, fun _ => by simp [pyI2, PyData.depth, PyData.depthAll], fun a b h => by
  simp only [pyI2, PySem.W.keyToks, PySem.W.keyToksAll, List.cons_append, List.nil_append, List.cons.injEq, Sum.inl.injEq, and_true, true_and] at h
  exact Prod.ext h.1 h.2⟩
theorem alike_strs : ∀ l m : List Str, PySem.W.alikeAll (l.map PyData.str) (m.map PyData.str) = true
  | [], m => by simp [PySem.W.alikeAll]
  | _ :: _, [] => rfl
  | x :: l, y :: m => by
    rw [List.map_cons, List.map_cons, PySem.W.alikeAll, alike_strs l m]; rfl
theorem toks_strs : ∀ l m : List Str, PySem.W.keyToksAll (l.map PyData.str) = PySem.W.keyToksAll (m.map PyData.str) → l = m
  | [], [], _ => rfl
  | [], y :: m, h => by simp [PySem.W.keyToksAll] at h
  | x :: l, [], h => by simp [PySem.W.keyToksAll] at h
  | x :: l, y :: m, h => by
    simp only [List.map_cons, PySem.W.keyToksAll, PySem.W.keyToks, List.cons_append, List.nil_append, List.cons.injEq, Sum.inr.injEq, true_and] at h
    rw [PySem.W.str_of_cps h.1, toks_strs l m h.2]
theorem seL (f : Fl) : SE (eL f) pyL := ⟨fun l => by
    show (toPyL _).map _ = _
    rw [toPyL_str]; rfl, fun l m => alike_strs l m, .inr fun _ => rfl, fun l => by
    unfold pyL
    rw [PyData.depth]
    rw [depth_strs]; omega, fun l m h => toks_strs l m h⟩
/-! ### by their order -/
theorem lt1 (x y : Str) : ltA py1 x y = decide (x.cps.toList < y.cps.toList) := by
  show PyProof.Rows.lexLt PyProof.Rows.itemOrd [.inr _] [.inr _] = _
  rw [PyProof.Rows.lex_cons]
  show (decide _ || (!decide _ && false)) = _
  rw [Bool.and_false, Bool.or_false]
end DG

set_option Elab.async false
set_option linter.all false
set_option maxHeartbeats 4000000
/-! DKb: loops by what was walked; dicts as sets, as tables. -/
namespace DG
open PySem PySem.Spec PyProof.Rows L2
set_option autoImplicit false
/-! ### loops -/
section
variable {ok : Fw → Env → Prop} {ex : Str → List (Str × D) → Env → Prop}
theorem wp_pre {α : Type} {ft : D → Env → Option Env} {body : M Fw} {emb : α → D} : ∀ {xs : List α} (I : List α → Env → Prop) {e : Env}, I [] e →
    (∀ (pre : List α) (x : α) (post : List α) (e : Env), xs = pre ++ x :: post → I pre e → ∃ e1, ft (emb x) e = some e1 ∧ Wp (body e1) (turnOk ok (I (pre ++ [x]))) ex) → (∀ e, I xs e → ok .next e) → Wp (loopM ft body (xs.map emb) e) ok ex
  | [], I, e, h0, _, h2 => ⟨h2 e h0⟩
  | x :: r, I, e, h0, h1, h2 => by
    obtain ⟨e1, k1, k2⟩ := h1 [] x r e rfl h0
    rw [List.map_cons]
    unfold loopM liftT
    rw [bind_app, k1, bnd_ok, bind_app]
    refine wp_bnd (wp_mono k2 (fun fl e2 k => ?_) fun _ _ _ z => z)
    have go : ∀ e, I [x] e → Wp (loopM ft body (r.map emb) e) ok ex := fun e hI => wp_pre (fun pre => I (x :: pre)) hI (fun pre y post e hx hI => h1 (x :: pre) y post e (by rw [hx]; rfl) hI) h2
    cases fl with
    | next => exact go e2 k
    | cont => exact go e2 k
    | brk => exact ⟨k⟩
    | ret d => exact ⟨k⟩
/-- a loop over nothing but what is there: a fold -/
theorem wp_fold {α S : Type} {ft : D → Env → Option Env} {body : M Fw} {emb : α → D} (st : S → Env → Prop) (step : S → α → S) : ∀ {xs : List α} {s : S} {e : Env}, st s e →
    (∀ (s : S) (x : α) (e : Env), x ∈ xs → st s e → ∃ e1, ft (emb x) e = some e1 ∧ Wp (body e1) (turnOk ok (st (step s x))) ex) → (∀ e, st (xs.foldl step s) e → ok .next e) → Wp (loopM ft body (xs.map emb) e) ok ex
  | [], s, e, h0, _, h2 => ⟨h2 e h0⟩
  | x :: r, s, e, h0, h1, h2 => by
    obtain ⟨e1, k1, k2⟩ := h1 s x e List.mem_cons_self h0
    rw [List.map_cons]
    unfold loopM liftT
    rw [bind_app, k1, bnd_ok, bind_app]
    refine wp_bnd (wp_mono k2 (fun fl e2 k => ?_) fun _ _ _ z => z)
    have go : ∀ e, st (step s x) e → Wp (loopM ft body (r.map emb) e) ok ex := fun e hI => wp_fold st step hI (fun s y e hy hI => h1 s y e (List.mem_cons_of_mem _ hy) hI) h2
    cases fl with
    | next => exact go e2 k
    | cont => exact go e2 k
    | brk => exact ⟨k⟩
    | ret d => exact ⟨k⟩
end
theorem range_emb (n : Nat) : rng 0 n = (List.range n).map fun i : Nat => D.int (0 + i) := rfl
/-! ### each thing once, in the order in which they came -/
section
variable {α : Type} [DecidableEq α]
def dd1 (a : List α) (x : α) : List α := if x ∈ a then a else a ++ [x]
def dd (l : List α) : List α := l.foldl dd1 []
theorem dd_snoc (l : List α) (x : α) : dd (l ++ [x]) = dd1 (dd l) x := by unfold dd; rw [List.foldl_append]; rfl
theorem dd_nil : dd ([] : List α) = [] := rfl
theorem mem_dd1 {a : List α} {x y : α} : y ∈ dd1 a x ↔ y ∈ a ∨ y = x := by
  unfold dd1
  by_cases h : x ∈ a
  · rw [if_pos h]; exact ⟨.inl, fun z => z.elim (fun z => z) fun z => z ▸ h⟩
  · rw [if_neg h, List.mem_append, List.mem_singleton]
theorem foldl_dd1 (l : List α) : ∀ (a : List α), a.Nodup → (l.foldl dd1 a).Nodup ∧ ∀ y, y ∈ l.foldl dd1 a ↔ y ∈ a ∨ y ∈ l := by
  induction l with
  | nil => exact fun a h => ⟨h, fun y => by simp⟩
  | cons x l ih =>
    intro a h
    have h1 : (dd1 a x).Nodup := by
      unfold dd1
      by_cases hx : x ∈ a
      · rw [if_pos hx]; exact h
      · rw [if_neg hx]
        refine List.nodup_append.mpr ⟨h, by simp, fun y hy z hz => ?_⟩
        rw [List.mem_singleton.mp hz]
        rintro rfl
        exact hx hy
    obtain ⟨k1, k2⟩ := ih (dd1 a x) h1
    refine ⟨k1, fun y => ?_⟩
    rw [List.foldl_cons, k2, mem_dd1, List.mem_cons, or_assoc]
theorem dd_nodup (l : List α) : (dd l).Nodup := (foldl_dd1 l [] List.nodup_nil).1
theorem mem_dd {l : List α} {y : α} : y ∈ dd l ↔ y ∈ l := by
  rw [dd, (foldl_dd1 l [] List.nodup_nil).2]; simp
theorem dd_append (l m : List α) : dd (l ++ m) = m.foldl dd1 (dd l) := by unfold dd; rw [List.foldl_append]
theorem dd_of_nodup {l : List α} (h : l.Nodup) : dd l = l := by
  have : ∀ (l a : List α), (a ++ l).Nodup → l.foldl dd1 a = a ++ l := by
    intro l
    induction l with
    | nil => intro a _; simp
    | cons x l ih =>
      intro a h
      have hx : x ∉ a := fun z => (List.nodup_append.mp h).2.2 x z x List.mem_cons_self rfl
      rw [List.foldl_cons, dd1, if_neg hx, ih _ (by rw [List.append_assoc]; exact h), List.append_assoc]; rfl
  exact this l [] h
/-- none twice, all of m: no more than m -/
theorem nodup_le {l m : List α} (h : l.Nodup) (hs : ∀ x ∈ l, x ∈ m) : l.length ≤ m.length := by
  induction l generalizing m with
  | nil => simp
  | cons x l ih =>
    obtain ⟨hx, h'⟩ := List.nodup_cons.mp h
    have mx := hs x List.mem_cons_self
    obtain ⟨s, t, rfl⟩ := List.append_of_mem mx
    have : l.length ≤ (s ++ t).length := ih h' fun y hy => by
      have := hs y (List.mem_cons_of_mem _ hy)
      rcases List.mem_append.mp this with z | z
      · exact List.mem_append_left _ z
      · rcases List.mem_cons.mp z with z | z
        · subst z; exact absurd hy hx
        · exact List.mem_append_right _ z
    simp only [List.length_append, List.length_cons] at this ⊢
    omega
end
/-! ### tables -/
section
variable {κ : Type} {α β : Type} [DecidableEq κ]
theorem getA_app (l : List (κ × β)) (k : κ) (b : β) (h : k ∉ l.map (·.1)) (k' : κ) : getA (l ++ [(k, b)]) k' = if k = k' then some b else getA l k' := by
  induction l with
  | nil => rfl
  | cons p r ih =>
    obtain ⟨q, a⟩ := p
    rw [List.map_cons, List.mem_cons, not_or] at h
    show getA ((q, a) :: (r ++ [(k, b)])) k' = _
    unfold getA
    by_cases e : q = k'
    · subst e
      rw [if_pos rfl, if_pos rfl, if_neg fun z => h.1 z]
    · rw [if_neg e, if_neg e, ih h.2]
theorem getA_rep (l : List (κ × β)) (k : κ) (b : β) (k' : κ) : getA (repA l k b) k' = if k = k' ∧ (getA l k).isSome = true then some b else getA l k' := by
  induction l with
  | nil => simp [repA, getA]
  | cons p r ih =>
    obtain ⟨q, a⟩ := p
    unfold repA
    by_cases e : q = k
    · subst e
      rw [if_pos rfl]
      unfold getA
      by_cases e2 : q = k'
      · rw [if_pos e2, if_pos rfl, if_pos ⟨e2, rfl⟩]
      · rw [if_neg e2, if_neg fun z => e2 z.1, if_neg e2]
    · rw [if_neg e]
      unfold getA
      rw [if_neg e, ih]
      by_cases e2 : q = k'
      · subst e2
        rw [if_pos rfl, if_pos rfl, if_neg fun z => e z.1.symm]
      · rw [if_neg e2, if_neg e2]
theorem setA_some {l : List (κ × β)} {k : κ} {a b : β} (h : getA l k = some a) : setA l k b = repA l k b := by
  unfold setA; rw [h]; rfl
theorem setA_none {l : List (κ × β)} {k : κ} {b : β} (h : getA l k = none) : setA l k b = l ++ [(k, b)] := by
  unfold setA; rw [h]; rfl
theorem getA_set (l : List (κ × β)) (k : κ) (b : β) (k' : κ) : getA (setA l k b) k' = if k = k' then some b else getA l k' := by
  cases h : getA l k with
  | some a =>
    rw [setA_some h, getA_rep, h]
    by_cases e : k = k'
    · rw [if_pos ⟨e, rfl⟩, if_pos e]
    · rw [if_neg fun z => e z.1, if_neg e]
  | none =>
    rw [setA_none h, getA_app l k b ((getA_none l k).mp h)]
theorem setA_keys (l : List (κ × β)) (k : κ) (b : β) : (setA l k b).map (·.1) = dd1 (l.map (·.1)) k := by
  unfold dd1
  cases h : getA l k with
  | some a =>
    have : k ∈ l.map (·.1) := Decidable.byContradiction fun z => by rw [(getA_none l k).mpr z] at h; cases h
    rw [setA_some h, if_pos this, repA_keys]
  | none =>
    rw [setA_none h, if_neg ((getA_none l k).mp h), List.map_append]; rfl
theorem getA_map (f : β → α) (l : List (κ × β)) (k : κ) : getA (l.map fun q => (q.1, f q.2)) k = (getA l k).map f := by
  induction l with
  | nil => rfl
  | cons p r ih =>
    obtain ⟨q, a⟩ := p
    rw [List.map_cons]
    unfold getA
    by_cases e : q = k
    · rw [if_pos e, if_pos e]; rfl
    · rw [if_neg e, if_neg e, ih]
theorem repA_map (f : β → α) (l : List (κ × β)) (k : κ) (b : β) : repA (l.map fun q => (q.1, f q.2)) k (f b) = (repA l k b).map fun q => (q.1, f q.2) := by
  induction l with
  | nil => rfl
  | cons p r ih =>
    obtain ⟨q, a⟩ := p
    rw [List.map_cons]
    unfold repA
    by_cases e : q = k
    · rw [if_pos e, if_pos e]; rfl
    · rw [if_neg e, if_neg e, ih]; rfl
theorem setA_map (f : β → α) (l : List (κ × β)) (k : κ) (b : β) : setA (l.map fun q => (q.1, f q.2)) k (f b) = (setA l k b).map fun q => (q.1, f q.2) := by
  cases h : getA l k with
  | some a => rw [setA_some (a := f a) (by rw [getA_map, h]; rfl), setA_some h, repA_map]
  | none => rw [setA_none (by rw [getA_map, h]; rfl), setA_none h, List.map_append]; rfl
/-- keys of one kind -/
theorem getA_keyed {ι : Type} [DecidableEq ι] (g : ι → κ) (hg : ∀ a b, g a = g b → a = b) (l : List (ι × β)) (k : ι) : getA (l.map fun q => (g q.1, q.2)) (g k) = getA l k := by
  induction l with
  | nil => rfl
  | cons p r ih =>
    obtain ⟨q, a⟩ := p
    rw [List.map_cons]
    unfold getA
    by_cases e : q = k
    · subst e; rw [if_pos rfl, if_pos rfl]
    · rw [if_neg fun z => e (hg _ _ z), if_neg e, ih]
theorem repA_keyed {ι : Type} [DecidableEq ι] (g : ι → κ) (hg : ∀ a b, g a = g b → a = b) (l : List (ι × β)) (k : ι) (b : β) : repA (l.map fun q => (g q.1, q.2)) (g k) b = (repA l k b).map fun q => (g q.1, q.2) := by
  induction l with
  | nil => rfl
  | cons p r ih =>
    obtain ⟨q, a⟩ := p
    rw [List.map_cons]
    unfold repA
    by_cases e : q = k
    · subst e; rw [if_pos rfl, if_pos rfl]; rfl
    · rw [if_neg fun z => e (hg _ _ z), if_neg e, ih]; rfl
theorem setA_keyed {ι : Type} [DecidableEq ι] (g : ι → κ) (hg : ∀ a b, g a = g b → a = b) (l : List (ι × β)) (k : ι) (b : β) : setA (l.map fun q => (g q.1, q.2)) (g k) b = (setA l k b).map fun q => (g q.1, q.2) := by
  cases h : getA l k with
  | some a => rw [setA_some (a := a) (by rw [getA_keyed g hg, h]), setA_some h, repA_keyed g hg]
  | none => rw [setA_none (by rw [getA_keyed g hg, h]), setA_none h, List.map_append]; rfl
/-- a set: all with one value -/
def setL (l : List κ) (b : β) : List (κ × β) := l.map fun k => (k, b)
theorem setL_keys (l : List κ) (b : β) : (setL l b).map (·.1) = l := by unfold setL; rw [List.map_map]; exact List.map_id _
theorem getA_setL (l : List κ) (b : β) (k : κ) : getA (setL l b) k = if k ∈ l then some b else none := by
  induction l with
  | nil => rfl
  | cons x l ih =>
    show getA ((x, b) :: setL l b) k = _
    unfold getA
    by_cases e : x = k
    · rw [if_pos e, if_pos (by rw [e]; exact List.mem_cons_self)]
    · rw [if_neg e, ih]
      by_cases h : k ∈ l
      · rw [if_pos h, if_pos (List.mem_cons_of_mem _ h)]
      · rw [if_neg h, if_neg fun z => (List.mem_cons.mp z).elim (fun z => e z.symm) h]
theorem setA_setL (l : List κ) (b : β) (k : κ) : setA (setL l b) k b = setL (dd1 l k) b := by
  unfold dd1
  by_cases h : k ∈ l
  · have e : getA (setL l b) k = some b := by rw [getA_setL, if_pos h]
    rw [setA_some e, if_pos h]
    exact repA_same e
  · rw [setA_none (by rw [getA_setL, if_neg h]), if_neg h]
    unfold setL; rw [List.map_append]; rfl
end
/-- keys that are texts, pairs of texts, triples of texts -/
def kS (x : Str) : Key := .inr x
def k2 (p : Str × Str) : List Key := [.inr p.1, .inr p.2]
def k3 (p : Str × Str × Str) : List Key := [.inr p.1, .inr p.2.1, .inr p.2.2]
theorem kS_inj (a b : Str) (h : kS a = kS b) : a = b := Sum.inr.inj h
theorem k2_inj (a b : Str × Str) (h : k2 a = k2 b) : a = b := by
  unfold k2 at h; simp only [List.cons.injEq, Sum.inr.injEq, and_true] at h
  exact Prod.ext h.1 h.2
theorem k3_inj (a b : Str × Str × Str) (h : k3 a = k3 b) : a = b := by
  unfold k3 at h; simp only [List.cons.injEq, Sum.inr.injEq, and_true] at h
  exact Prod.ext h.1 (Prod.ext h.2.1 h.2.2)
/-- a table by texts -/
def tbl {β : Type} (l : List (Str × β)) : List (Key × β) := l.map fun q => (kS q.1, q.2)
def tb2 {β : Type} (l : List ((Str × Str) × β)) : List (List Key × β) := l.map fun q => (k2 q.1, q.2)
def tb3 {β : Type} (l : List ((Str × Str × Str) × β)) : List (List Key × β) := l.map fun q => (k3 q.1, q.2)
section
variable {β : Type}
@[simp] theorem tbl_nil : tbl ([] : List (Str × β)) = [] := _root_.id rfl
@[simp] theorem tb2_nil : tb2 ([] : List ((Str × Str) × β)) = [] := _root_.id rfl
@[simp] theorem tb3_nil : tb3 ([] : List ((Str × Str × Str) × β)) = [] := _root_.id rfl
@[simp] theorem tbl_len (l : List (Str × β)) : (tbl l).length = l.length := List.length_map _
@[simp] theorem tb2_len (l : List ((Str × Str) × β)) : (tb2 l).length = l.length := List.length_map _
@[simp] theorem tb3_len (l : List ((Str × Str × Str) × β)) : (tb3 l).length = l.length := List.length_map _
@[simp] theorem setL_len {κ : Type} (l : List κ) (b : β) : (setL l b).length = l.length := List.length_map _
@[simp] theorem tbl_get (l : List (Str × β)) (x : Str) : getA (tbl l) (.inr x) = getA l x := getA_keyed kS kS_inj l x
@[simp] theorem tbl_set (l : List (Str × β)) (x : Str) (b : β) : setA (tbl l) (.inr x) b = tbl (setA l x b) := setA_keyed kS kS_inj l x b
@[simp] theorem tb2_set (l : List ((Str × Str) × β)) (x y : Str) (b : β) : setA (tb2 l) [.inr x, .inr y] b = tb2 (setA l (x, y) b) := setA_keyed k2 k2_inj l (x, y) b
@[simp] theorem tb2_get (l : List ((Str × Str) × β)) (x y : Str) : getA (tb2 l) [.inr x, .inr y] = getA l (x, y) := getA_keyed k2 k2_inj l (x, y)
@[simp] theorem tb3_set (l : List ((Str × Str × Str) × β)) (x y z : Str) (b : β) : setA (tb3 l) [.inr x, .inr y, .inr z] b = tb3 (setA l (x, y, z) b) := setA_keyed k3 k3_inj l (x, y, z) b
@[simp] theorem tb3_get (l : List ((Str × Str × Str) × β)) (x y z : Str) : getA (tb3 l) [.inr x, .inr y, .inr z] = getA l (x, y, z) := getA_keyed k3 k3_inj l (x, y, z)
@[simp] theorem tbl_keysV (l : List (Str × β)) : ((tbl l).map (·.1)).map keyV = (l.map (·.1)).map D.str := by
  unfold tbl; rw [List.map_map, List.map_map, List.map_map]; rfl
@[simp] theorem tbl_keys (l : List (Str × β)) : (tbl l).map (·.1) = (l.map (·.1)).map Sum.inr := by
  unfold tbl; rw [List.map_map, List.map_map]; rfl
@[simp] theorem map_keyV (l : List Str) : (l.map (Sum.inr : Str → Key)).map keyV = l.map D.str := by rw [List.map_map]; rfl
@[simp] theorem map_keyVc (l : List Str) : l.map (keyV ∘ (Sum.inr : Str → Key)) = l.map D.str := _root_.id rfl
@[simp] theorem tbl_keysOf (l : List (Str × D)) : keysOf (tbl l) = (l.map (·.1)).map D.str := tbl_keysV l
@[simp] theorem tb2_keysOf (l : List ((Str × Str) × D)) : tkeysOf (tb2 l) = (l.map (·.1)).map e2 := by
  unfold tkeysOf tb2; rw [List.map_map, List.map_map, List.map_map]; rfl
@[simp] theorem tb3_keysOf (l : List ((Str × Str × Str) × D)) : tkeysOf (tb3 l) = (l.map (·.1)).map e3 := by
  unfold tkeysOf tb3; rw [List.map_map, List.map_map, List.map_map]; rfl
@[simp] theorem setL_keysE {κ : Type} [DecidableEq κ] (l : List κ) (b : β) : (setL l b).map (·.1) = l := setL_keys l b
end
/-! ### what sorted tells -/
@[simp] theorem sorD_str (f : Fl) (l : List Str) : sorD [.lst f (l.map D.str)] = some (.nl ((sortA py1 l).map D.str)) := se1.sorD f l
@[simp] theorem sorD_int (f : Fl) (l : List Int) : sorD [.lst f (l.map D.int)] = some (.nl ((sortA PyData.int l).map D.int)) := seI.sorD f l
@[simp] theorem sorD_e2 (f : Fl) (l : List (Str × Str)) : sorD [.lst f (l.map e2)] = some (.nl ((sortA py2 l).map e2)) := se2.sorD f l
@[simp] theorem sorD_e3 (f : Fl) (l : List (Str × Str × Str)) : sorD [.lst f (l.map e3)] = some (.nl ((sortA py3 l).map e3)) := se3.sorD f l
@[simp] theorem sorD_tbl (f : Fl) (l : List (Str × D)) : sorD [.dk f (tbl l)] = some (.nl ((sortA py1 (l.map (·.1))).map D.str)) := by
  show srt (keysOf _) = _
  rw [tbl_keysOf]; exact se1.srt _
@[simp] theorem sorD_tb2 (f : Fl) (l : List ((Str × Str) × D)) : sorD [.dt f (tb2 l)] = some (.nl ((sortA py2 (l.map (·.1))).map e2)) := by
  show srt (tkeysOf _) = _
  rw [tb2_keysOf]; exact se2.srt _
@[simp] theorem sorD_tb3 (f : Fl) (l : List ((Str × Str × Str) × D)) : sorD [.dt f (tb3 l)] = some (.nl ((sortA py3 (l.map (·.1))).map e3)) := by
  show srt (tkeysOf _) = _
  rw [tb3_keysOf]; exact se3.srt _
/-! ### flags of these -/
section
variable {α : Type} (g : Fl → Fl) (q : Fl → Bool)
@[simp] theorem mapFL_e2 (l : List (Str × Str)) : mapFL g (l.map e2) = l.map e2 := mapFL_of g (fun _ => rfl) l
@[simp] theorem mapFL_e3 (l : List (Str × Str × Str)) : mapFL g (l.map e3) = l.map e3 := mapFL_of g (fun _ => rfl) l
@[simp] theorem allFL_e2 (l : List (Str × Str)) : allFL q (l.map e2) = true := allFL_of q (fun _ => rfl) l
@[simp] theorem allFL_e3 (l : List (Str × Str × Str)) : allFL q (l.map e3) = true := allFL_of q (fun _ => rfl) l
theorem mapFK_of {l : List (Key × D)} (h : ∀ p ∈ l, mapF g p.2 = p.2) : mapFK g l = l := by
  induction l with
  | nil => rfl
  | cons p l ih =>
    obtain ⟨k, d⟩ := p
    rw [mapFK, h (k, d) List.mem_cons_self, ih fun p hp => h p (List.mem_cons_of_mem _ hp)]
theorem allFK_of {l : List (Key × D)} (h : ∀ p ∈ l, allF q p.2 = true) : allFK q l = true := by
  induction l with
  | nil => rfl
  | cons p l ih =>
    obtain ⟨k, d⟩ := p
    rw [allFK, h (k, d) List.mem_cons_self, ih fun p hp => h p (List.mem_cons_of_mem _ hp)]; rfl
theorem mapFT_of {l : List (List Key × D)} (h : ∀ p ∈ l, mapF g p.2 = p.2) : mapFT g l = l := by
  induction l with
  | nil => rfl
  | cons p l ih =>
    obtain ⟨k, d⟩ := p
    rw [mapFT, h (k, d) List.mem_cons_self, ih fun p hp => h p (List.mem_cons_of_mem _ hp)]
theorem allFT_of {l : List (List Key × D)} (h : ∀ p ∈ l, allF q p.2 = true) : allFT q l = true := by
  induction l with
  | nil => rfl
  | cons p l ih =>
    obtain ⟨k, d⟩ := p
    rw [allFT, h (k, d) List.mem_cons_self, ih fun p hp => h p (List.mem_cons_of_mem _ hp)]; rfl
/-- values that own nothing -/
theorem tbl_map (f : α → D) (h : ∀ a, mapF g (f a) = f a) (l : List (Str × α)) : mapFK g (tbl (l.map fun p => (p.1, f p.2))) = tbl (l.map fun p => (p.1, f p.2)) := mapFK_of g fun p hp => by
  simp only [tbl, List.map_map, List.mem_map] at hp
  obtain ⟨a, _, rfl⟩ := hp
  exact h a.2
theorem tbl_all (f : α → D) (h : ∀ a, allF q (f a) = true) (l : List (Str × α)) : allFK q (tbl (l.map fun p => (p.1, f p.2))) = true := allFK_of q fun p hp => by
  simp only [tbl, List.map_map, List.mem_map] at hp
  obtain ⟨a, _, rfl⟩ := hp
  exact h a.2
@[simp] theorem mapFK_set (l : List Str) (b : Bool) : mapFK g (tbl (setL l (.bl b))) = tbl (setL l (.bl b)) := mapFK_of g fun p hp => by
  simp only [tbl, setL, List.map_map, List.mem_map] at hp
  obtain ⟨a, _, rfl⟩ := hp
  rfl
@[simp] theorem allFK_set (l : List Str) (b : Bool) : allFK q (tbl (setL l (.bl b))) = true := allFK_of q fun p hp => by
  simp only [tbl, setL, List.map_map, List.mem_map] at hp
  obtain ⟨a, _, rfl⟩ := hp
  rfl
@[simp] theorem mapFT_set2 (l : List (Str × Str)) (b : Bool) : mapFT g (tb2 (setL l (.bl b))) = tb2 (setL l (.bl b)) := mapFT_of g fun p hp => by
  simp only [tb2, setL, List.map_map, List.mem_map] at hp
  obtain ⟨a, _, rfl⟩ := hp
  rfl
@[simp] theorem mapFT_set3 (l : List (Str × Str × Str)) (b : Bool) : mapFT g (tb3 (setL l (.bl b))) = tb3 (setL l (.bl b)) := mapFT_of g fun p hp => by
  simp only [tb3, setL, List.map_map, List.mem_map] at hp
  obtain ⟨a, _, rfl⟩ := hp
  rfl
end
@[simp] theorem mapF_dt (g : Fl → Fl) (f : Fl) (ks : List (List Key × D)) : mapF g (.dt f ks) = .dt (g f) (mapFT g ks) := _root_.id rfl
@[simp] theorem allF_dt (q : Fl → Bool) (f : Fl) (ks : List (List Key × D)) : allF q (.dt f ks) = (q f && allFT q ks) := _root_.id rfl
@[simp] theorem stoSel_t2 (l : List ((Str × Str) × D)) (i : Nat) (x y : Str) (v : D) (e : Env) : stoSel (some (some (.dt .own (tb2 l)))) i (.tup [.str x, .str y]) v e = if l.length < sizeLine then some (e.set i (some (.dt .own (tb2 (setA l (x, y) v))))) else none := by
  rw [← tb2_set, ← tb2_len]; rfl
@[simp] theorem stoSel_t3 (l : List ((Str × Str × Str) × D)) (i : Nat) (x y z : Str) (v : D) (e : Env) : stoSel (some (some (.dt .own (tb3 l)))) i (.tup [.str x, .str y, .str z]) v e = if l.length < sizeLine then some (e.set i (some (.dt .own (tb3 (setA l (x, y, z) v))))) else none := by
  rw [← tb3_set, ← tb3_len]; rfl
@[simp] theorem line_1 : 1 ≤ sizeLine := line_ge (by omega)
@[simp] theorem line_2 : 2 ≤ sizeLine := line_ge (by omega)
@[simp] theorem line_3 : 3 ≤ sizeLine := line_ge (by omega)
@[simp] theorem line_4 : 4 ≤ sizeLine := line_ge (by omega)
@[simp] theorem line_5 : 5 ≤ sizeLine := line_ge (by omega)
@[simp] theorem line_6 : 6 ≤ sizeLine := line_ge (by omega)
@[simp] theorem line_7 : 7 ≤ sizeLine := line_ge (by omega)
@[simp] theorem line_8 : 8 ≤ sizeLine := line_ge (by omega)
@[simp] theorem line_9 : 9 ≤ sizeLine := line_ge (by omega)
@[simp] theorem line_10 : 10 ≤ sizeLine := line_ge (by omega)
@[simp] theorem line_11 : 11 ≤ sizeLine := line_ge (by omega)
@[simp] theorem line_12 : 12 ≤ sizeLine := line_ge (by omega)
@[simp] theorem line_13 : 13 ≤ sizeLine := line_ge (by omega)
@[simp] theorem line_14 : 14 ≤ sizeLine := line_ge (by omega)
@[simp] theorem line_15 : 15 ≤ sizeLine := line_ge (by omega)
@[simp] theorem line_16 : 16 ≤ sizeLine := line_ge (by omega)
@[simp] theorem line_17 : 17 ≤ sizeLine := line_ge (by omega)
@[simp] theorem line_18 : 18 ≤ sizeLine := line_ge (by omega)
@[simp] theorem line_19 : 19 ≤ sizeLine := line_ge (by omega)
@[simp] theorem line_20 : 20 ≤ sizeLine := line_ge (by omega)
@[simp] theorem line_21 : 21 ≤ sizeLine := line_ge (by omega)
@[simp] theorem line_22 : 22 ≤ sizeLine := line_ge (by omega)
@[simp] theorem line_23 : 23 ≤ sizeLine := line_ge (by omega)
@[simp] theorem line_24 : 24 ≤ sizeLine := line_ge (by omega)
@[simp] theorem line_25 : 25 ≤ sizeLine := line_ge (by omega)
@[simp] theorem line_26 : 26 ≤ sizeLine := line_ge (by omega)
@[simp] theorem line_27 : 27 ≤ sizeLine := line_ge (by omega)
@[simp] theorem line_28 : 28 ≤ sizeLine := line_ge (by omega)
@[simp] theorem line_29 : 29 ≤ sizeLine := line_ge (by omega)
@[simp] theorem line_30 : 30 ≤ sizeLine := line_ge (by omega)
@[simp] theorem line_36 : 36 ≤ sizeLine := line_ge (by omega)
@[simp] theorem line_39 : 39 ≤ sizeLine := line_ge (by omega)
@[simp] theorem line_40 : 40 ≤ sizeLine := line_ge (by omega)
@[simp] theorem line_41 : 41 ≤ sizeLine := line_ge (by omega)
@[simp] theorem line_42 : 42 ≤ sizeLine := line_ge (by omega)
@[simp] theorem line_43 : 43 ≤ sizeLine := line_ge (by omega)
/-! ### a dict walked at a name -/
def kpSel (io : Bool) (i : Nat) (o : Option (Option D)) (e : Env) : Res (List D) := match o with
  | some (some (.dk f ks)) => if noLk f = true then .ok ((ks.map (·.1)).map keyV) (e.set i (some (.dk (shF io f) ks))) else .bad
  | _ => .bad
@[simp] theorem kpSel_dk (io : Bool) (i : Nat) (f : Fl) (ks : List (Key × D)) (e : Env) : kpSel io i (some (some (.dk f ks))) e = if noLk f = true then .ok ((ks.map (·.1)).map keyV) (e.set i (some (.dk (shF io f) ks))) else .bad := _root_.id rfl
@[simp] theorem keysP_slot (io : Bool) (i : Nat) (e : Env) : keysP io (slotP1 i) e = kpSel io i e[i]? e := by
  unfold keysP slotP1 slotP kpSel
  rw [bind_app]
  cases hi : e[i]? with
  | none => rfl
  | some o =>
    cases o with
    | none => rfl
    | some d =>
      have s := fun d' => setAt_slot hi d'
      simp only [List.mem_singleton, if_true, bnd_ok]
      rw [atP_slot, hi]
      cases d <;> first | rfl | simp only [Option.join_some, s]
end DG

set_option Elab.async false
set_option linter.all false
set_option maxHeartbeats 4000000
/-! DKc: texts that are written; try; isinstance; equality of unlike things. -/
namespace DG
open PySem PySem.Spec PyProof.Rows L2
set_option autoImplicit false
theorem ofS_inj {a b : String} (h : Str.ofString a = Str.ofString b) : a = b := by
  rw [Str.ofString_eq_toList, Str.ofString_eq_toList] at h
  have h : (a.toList.map Char.toNat) = (b.toList.map Char.toNat) := by
    have := congrArg (fun s : Str => s.cps.toList) h
    simpa using this
  have h2 : a.toList = b.toList := (List.map_inj_right fun x y e => Char.ext (UInt32.toNat_inj.mp e)).mp h
  rw [← String.ofList_toList (s := a), ← String.ofList_toList (s := b), h2]
@[simp] theorem ofS_eq (a b : String) : (Str.ofString a = Str.ofString b) = (a = b) := by
  rw [eq_iff_iff]; exact ⟨ofS_inj, fun h => by rw [h]⟩
theorem lk_ite {α β : Type} [BEq α] [LawfulBEq α] [DecidableEq α] (a k : α) (b : β) (es : List (α × β)) : ((k, b) :: es).lookup a = if a = k then some b else es.lookup a := by
  rw [List.lookup_cons]
  by_cases h : a = k
  · subst h; rw [beq_self_eq_true, if_pos rfl]
  · rw [beq_false_of_ne h, if_neg h]
@[simp] theorem lk_nil {α β : Type} [BEq α] (a : α) : ([] : List (α × β)).lookup a = none := _root_.id rfl
@[simp] theorem lk_str {β : Type} (a k : Str) (b : β) (es : List (Str × β)) : ((k, b) :: es).lookup a = if a = k then some b else es.lookup a := lk_ite a k b es
instance : LawfulBEq CN where
  eq_of_beq {a b} h := by
    cases a <;> cases b
    · exact congrArg Sum.inl (eq_of_beq h)
    · cases h
    · cases h
    · exact congrArg Sum.inr (eq_of_beq h)
  rfl {a} := by
    cases a with
    | inl x => exact beq_self_eq_true x
    | inr x => exact beq_self_eq_true x
@[simp] theorem lk_cn {β : Type} (a k : CN × CN) (b : β) (es : List ((CN × CN) × β)) : ((k, b) :: es).lookup a = if a = k then some b else es.lookup a := lk_ite a k b es
/-! ### try -/
def trSel (o : Option Bool) (c : Str) (fs : List (Str × D)) (e : Env) (i : Nat) (h : M Fw) : Res Fw := match o with
  | some true => if i < e.length then noX ((h (e.set i (some (.exc .sh c fs)))).killR i) else .bad
  | some false => .exc c fs e
  | none => .bad
def Res.tr (r : Res Fw) (tab : List (Str × Bool)) (i : Nat) (h : M Fw) : Res Fw := match r with
  | .exc c fs e => trSel (tab.lookup c) c fs e i h
  | r => r
@[simp] theorem tryK_app (b : M Fw) (tab : List (Str × Bool)) (i : Nat) (h : M Fw) (e : Env) : tryK b tab i h e = (b e).tr tab i h := by
  unfold tryK Res.tr
  cases b e <;> rfl
@[simp] theorem tr_ok (fl : Fw) (e : Env) (tab : List (Str × Bool)) (i : Nat) (h : M Fw) : (Res.ok fl e).tr tab i h = .ok fl e := _root_.id rfl
@[simp] theorem tr_bad (tab : List (Str × Bool)) (i : Nat) (h : M Fw) : (Res.bad).tr tab i h = .bad := _root_.id rfl
@[simp] theorem tr_exc (c : Str) (fs : List (Str × D)) (e : Env) (tab : List (Str × Bool)) (i : Nat) (h : M Fw) : (Res.exc c fs e).tr tab i h = trSel (tab.lookup c) c fs e i h := _root_.id rfl
@[simp] theorem trSel_t (c : Str) (fs : List (Str × D)) (e : Env) (i : Nat) (h : M Fw) : trSel (some true) c fs e i h = if i < e.length then noX ((h (e.set i (some (.exc .sh c fs)))).killR i) else .bad := _root_.id rfl
@[simp] theorem trSel_f (c : Str) (fs : List (Str × D)) (e : Env) (i : Nat) (h : M Fw) : trSel (some false) c fs e i h = .exc c fs e := _root_.id rfl
@[simp] theorem noX_ok {α : Type} (a : α) (e : Env) : noX (Res.ok a e) = .ok a e := _root_.id rfl
@[simp] theorem killR_ok (i : Nat) (fl : Fw) (e : Env) : Res.killR i (Res.ok fl e) = .ok fl (e.set i none) := _root_.id rfl
def trOSel (o : Option Bool) (c : Str) (fs : List (Str × D)) (e : Env) (h : M Fw) : Res Fw := match o with
  | some true => noX (h e)
  | some false => .exc c fs e
  | none => .bad
def Res.trO (r : Res Fw) (tab : List (Str × Bool)) (h o : M Fw) : Res Fw := match r with
  | .exc c fs e => trOSel (tab.lookup c) c fs e h
  | .ok .next e => o e
  | r => r
@[simp] theorem tryO_app (b : M Fw) (tab : List (Str × Bool)) (h o : M Fw) (e : Env) : tryO b tab h o e = (b e).trO tab h o := by
  unfold tryO Res.trO
  cases b e with
  | ok fl e => cases fl <;> rfl
  | _ => rfl
@[simp] theorem trO_next (e : Env) (tab : List (Str × Bool)) (h o : M Fw) : (Res.ok .next e).trO tab h o = o e := _root_.id rfl
@[simp] theorem trO_ret (d : D) (e : Env) (tab : List (Str × Bool)) (h o : M Fw) : (Res.ok (.ret d) e).trO tab h o = .ok (.ret d) e := _root_.id rfl
@[simp] theorem trO_bad (tab : List (Str × Bool)) (h o : M Fw) : (Res.bad).trO tab h o = .bad := _root_.id rfl
@[simp] theorem trO_exc (c : Str) (fs : List (Str × D)) (e : Env) (tab : List (Str × Bool)) (h o : M Fw) : (Res.exc c fs e).trO tab h o = trOSel (tab.lookup c) c fs e h := _root_.id rfl
@[simp] theorem trOSel_t (c : Str) (fs : List (Str × D)) (e : Env) (h : M Fw) : trOSel (some true) c fs e h = noX (h e) := _root_.id rfl
@[simp] theorem trOSel_f (c : Str) (fs : List (Str × D)) (e : Env) (h : M Fw) : trOSel (some false) c fs e h = .exc c fs e := _root_.id rfl
/-! ### isinstance of some classes -/
@[simp] theorem tgts_nil : tgts [] = some [] := _root_.id rfl
@[simp] theorem tgts_ty (t : String) (r : List D) : tgts (.ty t :: r) = (tgts r).map (Sum.inr t :: ·) := by
  show (match some (Sum.inr t : CN), tgts r with | some c, some cs => some (c :: cs) | _, _ => none) = _
  cases tgts r <;> rfl
@[simp] theorem tgts_fn (t : Str) (r : List D) : tgts (.fn t :: r) = (tgts r).map (Sum.inl t :: ·) := by
  show (match some (Sum.inl t : CN), tgts r with | some c, some cs => some (c :: cs) | _, _ => none) = _
  cases tgts r <;> rfl
def isi2 (tb : Tab) (xc : List Str) (a : Option CN) (cs : Option (List CN)) : Option Nw := match a, cs with
  | some a, some cs => if cnOk xc a = true then (isAny tb a cs).map fun b => .sc (.bl b) else none
  | _, _ => none
@[simp] theorem isiT_tup (tb : Tab) (xc : List Str) (d : D) (ts : List D) : isiT tb xc [d, .tup ts] = isi2 tb xc (clsD d) (tgts ts) := _root_.id rfl
@[simp] theorem isi2_r (tb : Tab) (xc : List Str) (u : String) (cs : List CN) : isi2 tb xc (some (.inr u)) (some cs) = (isAny tb (.inr u) cs).map fun b => .sc (.bl b) := _root_.id rfl
@[simp] theorem isi2_l (tb : Tab) (xc : List Str) (u : Str) (cs : List CN) : isi2 tb xc (some (.inl u)) (some cs) = if u ∈ xc then (isAny tb (.inl u) cs).map fun b => .sc (.bl b) else none := by
  show (if cnOk xc (.inl u) = true then _ else _) = _
  unfold cnOk; simp
@[simp] theorem isAny_nil (tb : Tab) (a : CN) : isAny tb a [] = some false := _root_.id rfl
@[simp] theorem isAny_cons (tb : Tab) (a c : CN) (cs : List CN) : isAny tb a (c :: cs) = (isOne tb a c).bind fun b => if b = true then some true else isAny tb a cs := by
  show (match isOne tb a c with | some true => some true | some false => isAny tb a cs | none => none) = _
  cases isOne tb a c with
  | none => rfl
  | some b => cases b <;> rfl
@[simp] theorem kit_int_int : kitB "int" "int" = some true := by decide +kernel
@[simp] theorem kit_int_str : kitB "int" "str" = some false := by decide +kernel
@[simp] theorem kit_int_list : kitB "int" "list" = some false := by decide +kernel
@[simp] theorem kit_int_tuple : kitB "int" "tuple" = some false := by decide +kernel
@[simp] theorem kit_int_dict : kitB "int" "dict" = some false := by decide +kernel
@[simp] theorem kit_int_bool : kitB "int" "bool" = some false := by decide +kernel
@[simp] theorem kit_int_ValueError : kitB "int" "ValueError" = some false := by decide +kernel
@[simp] theorem kit_str_int : kitB "str" "int" = some false := by decide +kernel
@[simp] theorem kit_str_str : kitB "str" "str" = some true := by decide +kernel
@[simp] theorem kit_str_list : kitB "str" "list" = some false := by decide +kernel
@[simp] theorem kit_str_tuple : kitB "str" "tuple" = some false := by decide +kernel
@[simp] theorem kit_str_dict : kitB "str" "dict" = some false := by decide +kernel
@[simp] theorem kit_str_bool : kitB "str" "bool" = some false := by decide +kernel
@[simp] theorem kit_str_ValueError : kitB "str" "ValueError" = some false := by decide +kernel
@[simp] theorem kit_list_int : kitB "list" "int" = some false := by decide +kernel
@[simp] theorem kit_list_str : kitB "list" "str" = some false := by decide +kernel
@[simp] theorem kit_list_list : kitB "list" "list" = some true := by decide +kernel
@[simp] theorem kit_list_tuple : kitB "list" "tuple" = some false := by decide +kernel
@[simp] theorem kit_list_dict : kitB "list" "dict" = some false := by decide +kernel
@[simp] theorem kit_list_bool : kitB "list" "bool" = some false := by decide +kernel
@[simp] theorem kit_list_ValueError : kitB "list" "ValueError" = some false := by decide +kernel
@[simp] theorem kit_tuple_int : kitB "tuple" "int" = some false := by decide +kernel
@[simp] theorem kit_tuple_str : kitB "tuple" "str" = some false := by decide +kernel
@[simp] theorem kit_tuple_list : kitB "tuple" "list" = some false := by decide +kernel
@[simp] theorem kit_tuple_tuple : kitB "tuple" "tuple" = some true := by decide +kernel
@[simp] theorem kit_tuple_dict : kitB "tuple" "dict" = some false := by decide +kernel
@[simp] theorem kit_tuple_bool : kitB "tuple" "bool" = some false := by decide +kernel
@[simp] theorem kit_tuple_ValueError : kitB "tuple" "ValueError" = some false := by decide +kernel
@[simp] theorem kit_dict_int : kitB "dict" "int" = some false := by decide +kernel
@[simp] theorem kit_dict_str : kitB "dict" "str" = some false := by decide +kernel
@[simp] theorem kit_dict_list : kitB "dict" "list" = some false := by decide +kernel
@[simp] theorem kit_dict_tuple : kitB "dict" "tuple" = some false := by decide +kernel
@[simp] theorem kit_dict_dict : kitB "dict" "dict" = some true := by decide +kernel
@[simp] theorem kit_dict_bool : kitB "dict" "bool" = some false := by decide +kernel
@[simp] theorem kit_dict_ValueError : kitB "dict" "ValueError" = some false := by decide +kernel
@[simp] theorem kit_bool_int : kitB "bool" "int" = some true := by decide +kernel
@[simp] theorem kit_bool_str : kitB "bool" "str" = some false := by decide +kernel
@[simp] theorem kit_bool_list : kitB "bool" "list" = some false := by decide +kernel
@[simp] theorem kit_bool_tuple : kitB "bool" "tuple" = some false := by decide +kernel
@[simp] theorem kit_bool_dict : kitB "bool" "dict" = some false := by decide +kernel
@[simp] theorem kit_bool_bool : kitB "bool" "bool" = some true := by decide +kernel
@[simp] theorem kit_bool_ValueError : kitB "bool" "ValueError" = some false := by decide +kernel
@[simp] theorem kit_NoneType_int : kitB "NoneType" "int" = some false := by decide +kernel
@[simp] theorem kit_NoneType_str : kitB "NoneType" "str" = some false := by decide +kernel
@[simp] theorem kit_NoneType_list : kitB "NoneType" "list" = some false := by decide +kernel
@[simp] theorem kit_NoneType_tuple : kitB "NoneType" "tuple" = some false := by decide +kernel
@[simp] theorem kit_NoneType_dict : kitB "NoneType" "dict" = some false := by decide +kernel
@[simp] theorem kit_NoneType_bool : kitB "NoneType" "bool" = some false := by decide +kernel
@[simp] theorem kit_NoneType_ValueError : kitB "NoneType" "ValueError" = some false := by decide +kernel
/-! ### equal, or not -/
theorem eqB_shp {d d' : D} {p p' : PyData} (h0 : scalD d d' = none) (h : shp d = some p) (h' : shp d' = some p') : eqB d d' = some (PyData.eqv p p') := by
  unfold eqB; rw [h0, h, h']
theorem neD_of {d d' : D} {b : Bool} (h : eqB d d' = some b) : neD d d' = some (.sc (.bl (!b))) := by unfold neD; rw [h]; rfl
theorem eqD_of {d d' : D} {b : Bool} (h : eqB d d' = some b) : eqD d d' = some (.sc (.bl b)) := by unfold eqD; rw [h]; rfl
@[simp] theorem neD_ni (i : Int) : neD .non (.int i) = some (.sc (.bl true)) := _root_.id rfl
@[simp] theorem neD_in (i : Int) : neD (.int i) .non = some (.sc (.bl true)) := _root_.id rfl
@[simp] theorem eqD_ni (i : Int) : eqD .non (.int i) = some (.sc (.bl false)) := _root_.id rfl
@[simp] theorem eqD_in (i : Int) : eqD (.int i) .non = some (.sc (.bl false)) := _root_.id rfl
@[simp] theorem eqD_nn : eqD .non .non = some (.sc (.bl true)) := _root_.id rfl
@[simp] theorem neD_nn : neD .non .non = some (.sc (.bl false)) := _root_.id rfl
@[simp] theorem eqD_ns (i : Str) : eqD .non (.str i) = some (.sc (.bl false)) := _root_.id rfl
@[simp] theorem eqD_sn (i : Str) : eqD (.str i) .non = some (.sc (.bl false)) := _root_.id rfl
theorem nonOne : isNon .non = true := rfl
@[simp] theorem isNon_non : isNon .non = true := _root_.id rfl
@[simp] theorem isNon_int (i : Int) : isNon (.int i) = false := _root_.id rfl
@[simp] theorem isNon_str (i : Str) : isNon (.str i) = false := _root_.id rfl
@[simp] theorem isNon_bl (i : Bool) : isNon (.bl i) = false := _root_.id rfl
@[simp] theorem isNon_lst (f : Fl) (i : List D) : isNon (.lst f i) = false := _root_.id rfl
@[simp] theorem isNon_tup (i : List D) : isNon (.tup i) = false := _root_.id rfl
@[simp] theorem isNon_ins (f : Fl) (c : Str) (i : List (Str × D)) : isNon (.ins f c i) = false := _root_.id rfl
@[simp] theorem immM_fn (x : Str) : immM (.fn x) = .ret (.fn x) := _root_.id rfl
@[simp] theorem imm_fn (x : Str) : imm (.fn x) = true := _root_.id rfl
@[simp] theorem imm_ty (x : String) : imm (.ty x) = true := _root_.id rfl
@[simp] theorem allF_fn (q : Fl → Bool) (x : Str) : allF q (.fn x) = true := _root_.id rfl
@[simp] theorem allF_ty (q : Fl → Bool) (x : String) : allF q (.ty x) = true := _root_.id rfl
def rng2K (s : Sm) (b : CE) (x : D) : M (List D) := fun e => ((sem s b).W e).bnd fun y => DG.rng2 x y
@[simp] theorem r_rng2 {s : Sm} {a b : CE} {e : Env} : (sem s (.rng2 a b)).I e = ((sem s a).W e).bnd (rng2K s b) := by
  show ((sem s a).W.bind fun x => (sem s b).W.bind fun y => DG.rng2 x y) e = _
  rw [bind_app]
  rfl
@[simp] theorem rng2K_app {s : Sm} {b : CE} {x : D} {e : Env} : rng2K s b x e = ((sem s b).W e).bnd (DG.rng2 x) := _root_.id rfl
@[simp] theorem rng2_int (i j : Int) (e : Env) : DG.rng2 (.int i) (.int j) e = if rngOk i ∧ rngOk j then .ok (DG.rng i (j - i).toNat) e else .bad := by
  show (if rngOk i ∧ rngOk j then M.ret _ else M.bad) e = _
  split <;> rfl
/-! ### lent twice -/
theorem lend_lend (d : D) : mapF (fun _ => Fl.ro) (mapF (fun _ => Fl.ro) d) = mapF (fun _ => Fl.ro) d := by
  induction d using D.rec (motive_2 := fun ds => mapFL (fun _ => Fl.ro) (mapFL (fun _ => Fl.ro) ds) = mapFL (fun _ => Fl.ro) ds) (motive_3 := fun ks => mapFK (fun _ => Fl.ro) (mapFK (fun _ => Fl.ro) ks) = mapFK (fun _ => Fl.ro) ks)
    (motive_4 := fun ks => mapFT (fun _ => Fl.ro) (mapFT (fun _ => Fl.ro) ks) = mapFT (fun _ => Fl.ro) ks) (motive_5 := fun ks => mapFS (fun _ => Fl.ro) (mapFS (fun _ => Fl.ro) ks) = mapFS (fun _ => Fl.ro) ks)
    (motive_6 := fun kd => mapF (fun _ => Fl.ro) (mapF (fun _ => Fl.ro) kd.2) = mapF (fun _ => Fl.ro) kd.2) (motive_7 := fun kd => mapF (fun _ => Fl.ro) (mapF (fun _ => Fl.ro) kd.2) = mapF (fun _ => Fl.ro) kd.2) (motive_8 := fun kd => mapF (fun _ => Fl.ro) (mapF (fun _ => Fl.ro) kd.2) = mapF (fun _ => Fl.ro) kd.2) with
  | _ => first | rfl | (simp_all [mapF, mapFL, mapFK, mapFT, mapFS])
@[simp] theorem mapFS_nil (g : Fl → Fl) : mapFS g [] = [] := _root_.id rfl
@[simp] theorem mapFS_cons (g : Fl → Fl) (k : Str) (d : D) (ds : List (Str × D)) : mapFS g ((k, d) :: ds) = (k, mapF g d) :: mapFS g ds := _root_.id rfl
@[simp] theorem mapF_exc (g : Fl → Fl) (f : Fl) (c : Str) (fs : List (Str × D)) : mapF g (.exc f c fs) = .exc (g f) c (mapFS g fs) := _root_.id rfl
@[simp] theorem mapF_ins (g : Fl → Fl) (f : Fl) (c : Str) (fs : List (Str × D)) : mapF g (.ins f c fs) = .ins (g f) c (mapFS g fs) := _root_.id rfl
@[simp] theorem allF_exc (q : Fl → Bool) (f : Fl) (c : Str) (fs : List (Str × D)) : allF q (.exc f c fs) = (q f && allFS q fs) := _root_.id rfl
@[simp] theorem allF_ins (q : Fl → Bool) (f : Fl) (c : Str) (fs : List (Str × D)) : allF q (.ins f c fs) = (q f && allFS q fs) := _root_.id rfl
/-! ### fields read -/
def fldSel (xt : FTab) (n : Str) (c : Str) (fs : List (Str × D)) : Option D := match xt.lookup c with
  | some ns => if n ∈ ns then getA fs n else none
  | none => none
@[simp] theorem fldD_exc (xt it : FTab) (n : Str) (f : Fl) (c : Str) (fs : List (Str × D)) : fldD xt it n (.exc f c fs) = (xt.lookup c).bind fun ns => if n ∈ ns then getA fs n else none := by
  show (match xt.lookup c with | some ns => if n ∈ ns then getA fs n else none | none => none) = _
  cases xt.lookup c <;> rfl
@[simp] theorem fldD_ins (xt it : FTab) (n : Str) (f : Fl) (c : Str) (fs : List (Str × D)) : fldD xt it n (.ins f c fs) = (it.lookup c).bind fun ns => if n ∈ ns then getA fs n else none := by
  show (match it.lookup c with | some ns => if n ∈ ns then getA fs n else none | none => none) = _
  cases it.lookup c <;> rfl
@[simp] theorem getA_cons {κ α : Type} [DecidableEq κ] (k' : κ) (a : α) (r : List (κ × α)) (k : κ) : getA ((k', a) :: r) k = if k' = k then some a else getA r k := _root_.id rfl
@[simp] theorem getA_nil {κ α : Type} [DecidableEq κ] (k : κ) : getA ([] : List (κ × α)) k = none := _root_.id rfl
end DG

set_option Elab.async false
set_option linter.all false
set_option maxHeartbeats 4000000
/-! DKd: lists of plain things: equal or not. -/
namespace DG
open PySem PySem.Spec PyProof.Rows L2
set_option autoImplicit false
structure EE {α : Type} [DecidableEq α] (emb : α → D) (py : α → PyData) (ok : α → Bool) : Prop where
  to : ∀ a, toPy (emb a) = some (py a)
  eqv : ∀ a b, PyData.eqv (py a) (py b) = decide (a = b)
  lay : ∀ a, ok a = true → (py a).canLay0 = true
  dep : ∀ a, (py a).depth ≤ 60
section
variable {α : Type} [DecidableEq α] {emb : α → D} {py : α → PyData} {ok : α → Bool}
theorem EE.toL (S : EE emb py ok) : ∀ l : List α, toPyL (l.map emb) = some (l.map py)
  | [] => rfl
  | a :: l => by
    rw [List.map_cons]
    unfold toPyL
    rw [S.to a, S.toL l]; rfl
theorem EE.layL (S : EE emb py ok) : ∀ l : List α, l.all ok = true → PyData.canLayAll0 (l.map py) = true
  | [], _ => by simp [PyData.canLayAll0]
  | a :: l, h => by
    rw [List.all_cons, Bool.and_eq_true] at h
    simp [PyData.canLayAll0, S.lay a h.1, S.layL l h.2]
theorem EE.depL (S : EE emb py ok) : ∀ l : List α, PyData.depthAll (l.map py) ≤ 60
  | [] => by simp [PyData.depthAll]
  | a :: l => by
    rw [List.map_cons, PyData.depthAll]
    have h1 := S.dep a
    have h2 := S.depL l
    omega
theorem EE.eqvL (S : EE emb py ok) : ∀ l m : List α, PyData.eqvAll (l.map py) (m.map py) = decide (l = m)
  | [], [] => by simp [PyData.eqvAll]
  | [], _ :: _ => by simp [PyData.eqvAll]
  | _ :: _, [] => by simp [PyData.eqvAll]
  | x :: l, y :: m => by
    rw [List.map_cons, List.map_cons, PyData.eqvAll, S.eqvL l m, S.eqv]
    by_cases h : x = y
    · subst h; by_cases h2 : l = m <;> simp [h2]
    · simp [h]
theorem EE.shpL (S : EE emb py ok) (f : Fl) {l : List α} (hl : l.all ok = true) : shp (.lst f (l.map emb)) = some (.list (l.map py)) := by
  unfold shp toPy
  rw [S.toL]
  show (if SeqAt.shaped (.list (l.map py)) = true then _ else _) = _
  rw [if_pos]
  show ((PyData.list (l.map py)).canLay0 && decide ((PyData.list (l.map py)).depth ≤ 64)) = true
  have d : (PyData.list (l.map py)).depth ≤ 64 := by
    rw [PyData.depth]
    have := S.depL l
    omega
  rw [decide_eq_true d, Bool.and_true]
  simp [PyData.canLay0, S.layL l hl]
theorem EE.eqB (S : EE emb py ok) (f g : Fl) {l m : List α} (hl : l.all ok = true) (hm : m.all ok = true) : eqB (.lst f (l.map emb)) (.lst g (m.map emb)) = some (decide (l = m)) := by
  rw [eqB_shp rfl (S.shpL f hl) (S.shpL g hm)]
  show some (PyData.eqv _ _) = _
  rw [show PyData.eqv (.list (l.map py)) (.list (m.map py)) = PyData.eqvAll (l.map py) (m.map py) by simp [PyData.eqv], S.eqvL]
theorem EE.shp1 (S : EE emb py ok) {a : α} (h : ok a = true) : shp (emb a) = some (py a) := by
  unfold shp
  rw [S.to]
  show (if SeqAt.shaped (py a) = true then _ else _) = _
  rw [if_pos]
  show ((py a).canLay0 && decide ((py a).depth ≤ 64)) = true
  have := S.dep a
  rw [S.lay a h, decide_eq_true (by omega)]; rfl
theorem EE.eq1 (S : EE emb py ok) (h0 : ∀ a b, scalD (emb a) (emb b) = none) {a b : α} (ha : ok a = true) (hb : ok b = true) : DG.eqB (emb a) (emb b) = some (decide (a = b)) := by
  rw [eqB_shp (h0 a b) (S.shp1 ha) (S.shp1 hb), S.eqv]
end
/-- signs that may stand in a text -/
def okS (x : Str) : Bool := PyData.strOk x
def ok2 (p : Str × Str) : Bool := okS p.1 && okS p.2
def ok3 (p : Str × Str × Str) : Bool := okS p.1 && (okS p.2.1 && okS p.2.2)
def okT {α : Type} (_ : α) : Bool := true
theorem dec_and {a b c d : Str} : (decide (a = c) && decide (b = d)) = decide ((a, b) = (c, d)) := by
  by_cases h1 : a = c <;> by_cases h2 : b = d <;> simp [h1, h2]
theorem ee1 : EE D.str py1 okS := ⟨fun _ => rfl, fun a b => by simp [py1, PyData.eqv]; rfl, fun a h => by
  simp only [py1, PyData.canLay0]; exact h, fun a => by simp [py1, PyData.depth]⟩
theorem eeI : EE D.int PyData.int okT := ⟨fun _ => rfl, fun a b => by simp [PyData.eqv]; rfl, fun a h => by simp [PyData.canLay0], fun a => by simp [PyData.depth]⟩
theorem ee2 : EE e2 py2 ok2 := ⟨fun _ => rfl, fun a b => by
    obtain ⟨a1, a2⟩ := a; obtain ⟨b1, b2⟩ := b
    simp only [py2, PyData.eqv, PyData.eqvAll, Bool.and_true]
    exact dec_and, fun a h => by
    simp only [ok2, okS, Bool.and_eq_true] at h
    simp [py2, PyData.canLay0, PyData.canLayAll0, h.1, h.2], fun a => by simp [py2, PyData.depth, PyData.depthAll]⟩
theorem ee3 : EE e3 py3 ok3 := ⟨fun _ => rfl, fun a b => by
    obtain ⟨a1, a2, a3⟩ := a; obtain ⟨b1, b2, b3⟩ := b
    simp only [py3, PyData.eqv, PyData.eqvAll, Bool.and_true]
    show (decide (a1 = b1) && (decide (a2 = b2) && decide (a3 = b3))) = _
    by_cases h1 : a1 = b1 <;> by_cases h2 : a2 = b2 <;> by_cases h3 : a3 = b3 <;> simp [h1, h2, h3], fun a h => by
    simp only [ok3, okS, Bool.and_eq_true] at h
    simp [py3, PyData.canLay0, PyData.canLayAll0, h.1, h.2.1, h.2.2], fun a => by simp [py3, PyData.depth, PyData.depthAll]⟩
theorem eeL (f : Fl) : EE (eL f) pyL (fun l => l.all okS) := ⟨fun l => (seL f).to l, fun l m => by
    show PyData.eqv (.list _) (.list _) = _
    rw [show PyData.eqv (.list (l.map .str)) (.list (m.map .str)) = PyData.eqvAll (l.map .str) (m.map .str) by simp [PyData.eqv], eqv_strs], fun l h => by
    have := ee1.layL l h
    show PyData.canLay0 (.list _) = true
    simp only [PyData.canLay0]; exact this, fun l => by
    show (PyData.list _).depth ≤ 60
    rw [PyData.depth]
    have := depth_strs l
    omega⟩
@[simp] theorem eqD_e2 (f g : Fl) {l m : List (Str × Str)} (hl : l.all ok2 = true) (hm : m.all ok2 = true) : eqD (.lst f (l.map e2)) (.lst g (m.map e2)) = some (.sc (.bl (decide (l = m)))) := eqD_of (ee2.eqB f g hl hm)
@[simp] theorem neD_e2 (f g : Fl) {l m : List (Str × Str)} (hl : l.all ok2 = true) (hm : m.all ok2 = true) : neD (.lst f (l.map e2)) (.lst g (m.map e2)) = some (.sc (.bl (!decide (l = m)))) := neD_of (ee2.eqB f g hl hm)
@[simp] theorem eqD_e3 (f g : Fl) {l m : List (Str × Str × Str)} (hl : l.all ok3 = true) (hm : m.all ok3 = true) : eqD (.lst f (l.map e3)) (.lst g (m.map e3)) = some (.sc (.bl (decide (l = m)))) := eqD_of (ee3.eqB f g hl hm)
@[simp] theorem neD_e3 (f g : Fl) {l m : List (Str × Str × Str)} (hl : l.all ok3 = true) (hm : m.all ok3 = true) : neD (.lst f (l.map e3)) (.lst g (m.map e3)) = some (.sc (.bl (!decide (l = m)))) := neD_of (ee3.eqB f g hl hm)
@[simp] theorem eqD_ints (f g : Fl) (l m : List Int) : eqD (.lst f (l.map D.int)) (.lst g (m.map D.int)) = some (.sc (.bl (decide (l = m)))) := eqD_of (eeI.eqB f g (by simp [okT]) (by simp [okT]))
@[simp] theorem neD_ints (f g : Fl) (l m : List Int) : neD (.lst f (l.map D.int)) (.lst g (m.map D.int)) = some (.sc (.bl (!decide (l = m)))) := neD_of (eeI.eqB f g (by simp [okT]) (by simp [okT]))
end DG
namespace DG
open PySem PySem.Spec PyProof.Rows L2
/-! ### in -/
theorem inB_flat {d : D} {f : Fl} {ds : List D} (h1 : flatD d = true) (h2 : ds.all flatD = true) : inB d (.lst f ds) = some (ds.any fun z => eqF z d) := by
  have h1' := h1
  cases d <;> first | (simp [flatD] at h1; done) | (show (if _ then _ else _) = _; rw [if_pos ⟨h1', h2⟩])
theorem any_dec {α : Type} [DecidableEq α] (x : α) (l : List α) : (l.any fun z => decide (z = x)) = decide (x ∈ l) := by
  rw [Bool.eq_iff_iff, List.any_eq_true, decide_eq_true_eq]
  exact ⟨fun ⟨y, hy, h⟩ => by rw [← of_decide_eq_true h]; exact hy, fun h => ⟨x, h, decide_eq_true rfl⟩⟩
@[simp] theorem inD_strs (x : Str) (f : Fl) (l : List Str) : inD (.str x) (.lst f (l.map D.str)) = some (.sc (.bl (decide (x ∈ l)))) := by
  unfold inD
  rw [inB_flat rfl (by simp [flatD]), List.any_map, ← any_dec]; rfl
@[simp] theorem ninD_strs (x : Str) (f : Fl) (l : List Str) : ninD (.str x) (.lst f (l.map D.str)) = some (.sc (.bl (!decide (x ∈ l)))) := by
  unfold ninD
  rw [inB_flat rfl (by simp [flatD]), List.any_map, ← any_dec]; rfl
@[simp] theorem inD_ints (x : Int) (f : Fl) (l : List Int) : inD (.int x) (.lst f (l.map D.int)) = some (.sc (.bl (decide (x ∈ l)))) := by
  unfold inD
  rw [inB_flat rfl (by simp [flatD]), List.any_map, ← any_dec]; rfl
@[simp] theorem ninD_ints (x : Int) (f : Fl) (l : List Int) : ninD (.int x) (.lst f (l.map D.int)) = some (.sc (.bl (!decide (x ∈ l)))) := by
  unfold ninD
  rw [inB_flat rfl (by simp [flatD]), List.any_map, ← any_dec]; rfl
@[simp] theorem inD_bls {α : Type} (x : Bool) (f : Fl) (g : α → Bool) (l : List α) : inD (.bl x) (.lst f (l.map fun a => D.bl (g a))) = some (.sc (.bl (l.any fun a => decide (g a = x)))) := by
  unfold inD
  rw [inB_flat rfl (by simp [flatD]), List.any_map]; rfl
section
variable {α : Type} [DecidableEq α] {emb : α → D} {py : α → PyData} {ok : α → Bool}
theorem EE.inB (S : EE emb py ok) (hf : ∀ a, flatD (emb a) = false) (hs : ∀ a f ds, DG.inB (emb a) (.lst f ds) = if flatD (emb a) = true ∧ ds.all flatD = true then some (ds.any fun z => eqF z (emb a)) else match shp (emb a), shp (.lst f ds) with
    | some p, some (.list ps) => some (ps.any fun z => PyData.eqv z p)
    | _, _ => none) {a : α} {l : List α} (f : Fl) (ha : ok a = true) (hl : l.all ok = true) : DG.inB (emb a) (.lst f (l.map emb)) = some (decide (a ∈ l)) := by
  rw [hs, if_neg (by rw [hf a]; simp), S.shp1 ha, S.shpL f hl]
  show some _ = _
  rw [List.any_map, ← any_dec]
  congr 2
  funext z
  exact S.eqv z a
end
@[simp] theorem inD_e2 (p : Str × Str) (f : Fl) (l : List (Str × Str)) (h1 : ok2 p = true) (h2 : l.all ok2 = true) : inD (e2 p) (.lst f (l.map e2)) = some (.sc (.bl (decide (p ∈ l)))) := by
  unfold inD; rw [ee2.inB (fun _ => rfl) (fun _ _ _ => rfl) f h1 h2]; exact congrArg (fun b => some (Nw.sc (.bl b))) (decide_eq_decide.mpr Iff.rfl)
@[simp] theorem ninD_e2 (p : Str × Str) (f : Fl) (l : List (Str × Str)) (h1 : ok2 p = true) (h2 : l.all ok2 = true) : ninD (e2 p) (.lst f (l.map e2)) = some (.sc (.bl (!decide (p ∈ l)))) := by
  unfold ninD; rw [ee2.inB (fun _ => rfl) (fun _ _ _ => rfl) f h1 h2]; exact congrArg (fun b => some (Nw.sc (.bl (!b)))) (decide_eq_decide.mpr Iff.rfl)
@[simp] theorem inD_e3 (p : Str × Str × Str) (f : Fl) (l : List (Str × Str × Str)) (h1 : ok3 p = true) (h2 : l.all ok3 = true) : inD (e3 p) (.lst f (l.map e3)) = some (.sc (.bl (decide (p ∈ l)))) := by
  unfold inD; rw [ee3.inB (fun _ => rfl) (fun _ _ _ => rfl) f h1 h2]; exact congrArg (fun b => some (Nw.sc (.bl b))) (decide_eq_decide.mpr Iff.rfl)
@[simp] theorem ninD_e3 (p : Str × Str × Str) (f : Fl) (l : List (Str × Str × Str)) (h1 : ok3 p = true) (h2 : l.all ok3 = true) : ninD (e3 p) (.lst f (l.map e3)) = some (.sc (.bl (!decide (p ∈ l)))) := by
  unfold ninD; rw [ee3.inB (fun _ => rfl) (fun _ _ _ => rfl) f h1 h2]; exact congrArg (fun b => some (Nw.sc (.bl (!b)))) (decide_eq_decide.mpr Iff.rfl)
@[simp] theorem inD_tbl (x : Str) (f : Fl) (l : List (Str × D)) : inD (.str x) (.dk f (tbl l)) = some (.sc (.bl (getA l x).isSome)) := by
  show (((keyD (.str x)).map fun k => (getA (tbl l) k).isSome).map _) = _
  rw [show keyD (.str x) = some (.inr x) from rfl, Option.map_some, tbl_get]; rfl
@[simp] theorem ninD_tbl (x : Str) (f : Fl) (l : List (Str × D)) : ninD (.str x) (.dk f (tbl l)) = some (.sc (.bl (!(getA l x).isSome))) := by
  show (((keyD (.str x)).map fun k => (getA (tbl l) k).isSome).map _) = _
  rw [show keyD (.str x) = some (.inr x) from rfl, Option.map_some, tbl_get]; rfl
@[simp] theorem isSome_setL {κ β : Type} [DecidableEq κ] (l : List κ) (b : β) (k : κ) : (getA (setL l b) k).isSome = decide (k ∈ l) := by
  rw [getA_setL]
  by_cases h : k ∈ l <;> simp [h]
theorem getA_some_iff {κ β : Type} [DecidableEq κ] (l : List (κ × β)) (k : κ) : (getA l k).isSome = decide (k ∈ l.map (·.1)) := by
  by_cases h : k ∈ l.map (·.1)
  · rw [decide_eq_true h]
    cases q : getA l k with
    | some _ => rfl
    | none => exact absurd h ((getA_none l k).mp q)
  · rw [decide_eq_false h, (getA_none l k).mpr h]; rfl
@[simp] theorem inD_tup2 (x a b : Str) : inD (.str x) (.tup [.str a, .str b]) = some (.sc (.bl (decide (x = a ∨ x = b)))) := by
  show ((if flatD (.str x) = true ∧ [D.str a, D.str b].all flatD = true then some ([D.str a, D.str b].any fun z => eqF z (.str x)) else none).map _) = _
  rw [if_pos ⟨rfl, by simp [flatD]⟩]
  show some (Nw.sc (.bl (decide (a = x) || (decide (b = x) || false)))) = _
  congr 3
  rw [Bool.or_false]
  by_cases h1 : x = a
  · subst h1; simp
  · by_cases h2 : x = b
    · subst h2; simp
    · simp [h1, h2, Ne.symm h1, Ne.symm h2]
end DG

set_option Elab.async false
set_option linter.all false
set_option maxHeartbeats 4000000
/-! DKe: computing with methods, makings, items, tuples taken apart, fields stored. -/
namespace DG
open PySem PySem.Spec PyProof.Rows L2
set_option autoImplicit false
section
variable {s : Sm} {e : Env} {a o t b v tg it ts el : CE} {i n : Nat} {m c x : Str} {F : List D → FRes} {FI : List D → FResI}
def mthK2 (n : Nat) (F : List D → FRes) (d : D) (ds : List D) : M D := if (d :: ds).length = n then resM (F (d :: ds)) else .bad
@[simp] theorem mthK2_app (d : D) (ds : List D) : mthK2 n F d ds e = if ds.length + 1 = n then resM (F (d :: ds)) e else .bad := iteM_app _ _ _ e
def mthK (q : Str × Str × Nat × (List D → FRes)) (r : M (List D)) (d : D) : M D := if isInsB q.1 q.2.1 d = true then r.bind (mthK2 q.2.2.1 q.2.2.2 d) else .bad
@[simp] theorem mthK_app (q : Str × Str × Nat × (List D → FRes)) (r : M (List D)) (d : D) : mthK q r d e = if isInsB q.1 q.2.1 d = true then (r e).bnd (mthK2 q.2.2.1 q.2.2.2 d) else .bad := by
  unfold mthK
  rw [iteM_app]
  split
  · exact bind_app ..
  · rfl
def mthS (q : Option (Str × Str × Nat × (List D → FRes))) (w : M D) (r : M (List D)) (e : Env) : Res D := match q with
  | some q => (w e).bnd (mthK q r)
  | none => ((r.bind fun _ => M.bad) : M D) e
@[simp] theorem mthS_some (q : Str × Str × Nat × (List D → FRes)) (w : M D) (r : M (List D)) : mthS (some q) w r e = (w e).bnd (mthK q r) := _root_.id rfl
@[simp] theorem r_mth : (sem s (.mth i o a)).V e = mthS s.ms[i]? (sem s o).W (sem s a).AW e := by
  show s.mth i _ _ e = _
  unfold Sm.mth mthS
  cases s.ms[i]? with
  | none => rfl
  | some q => exact bind_app ..
@[simp] theorem a_mthW : (sem s (.mth i o a)).W e = ((sem s (.mth i o a)).V e).bnd lendK := mkV_W ..
@[simp] theorem a_mthT : (sem s (.mth i o a)).T e = ((sem s (.mth i o a)).W e).bnd truM := mkV_T ..
@[simp] theorem a_mthI : (sem s (.mth i o a)).I e = ((sem s (.mth i o a)).V e).bnd (itL s.io) := mkV_I ..
@[simp] theorem a_mthV0 : (sem s (.mth i o a)).V0 e = (sem s (.mth i o a)).V e := _root_.id rfl
@[simp] theorem a_mthH : (sem s (.mth i o a)).H e = (sem s (.mth i o a)).V e := _root_.id rfl
@[simp] theorem isInsB_ins (f : Fl) (c' : Str) (fs : List (Str × D)) : isInsB m c (.ins f c' fs) = (decide (c' = c) && (getA fs m).isNone) := _root_.id rfl
/-! ### made -/
def mkE (c : Str) (r : FResI) (e : Env) : Res D := match r with
  | .ok .non s => .ok s e
  | .ok _ _ => .bad
  | .exc cc fs _ => .exc cc fs e
  | .bad => .bad
@[simp] theorem mkE_ok (d : D) : mkE c (.ok .non d) e = .ok d e := _root_.id rfl
@[simp] theorem mkE_exc (cc : Str) (fs : List (Str × D)) (d : D) : mkE c (.exc cc fs d) e = .exc cc fs e := _root_.id rfl
def mkK (q : Str × Nat × (List D → FResI)) (ds : List D) : M D := fun e => if ds.length + 1 = q.2.1 then mkE q.1 (q.2.2 (.ins .own q.1 [] :: mapFL (fun _ => .ro) ds)) e else .bad
@[simp] theorem mkK_app (q : Str × Nat × (List D → FResI)) (ds : List D) : mkK q ds e = if ds.length + 1 = q.2.1 then mkE q.1 (q.2.2 (.ins .own q.1 [] :: mapFL (fun _ => .ro) ds)) e else .bad := _root_.id rfl
def mkS (q : Option (Str × Nat × (List D → FResI))) (r : M (List D)) (e : Env) : Res D := match q with
  | some q => (r e).bnd (mkK q)
  | none => ((r.bind fun _ => M.bad) : M D) e
@[simp] theorem mkS_some (q : Str × Nat × (List D → FResI)) (r : M (List D)) : mkS (some q) r e = (r e).bnd (mkK q) := _root_.id rfl
@[simp] theorem r_mk : (sem s (.mk i a)).V e = mkS s.mkc[i]? (sem s a).AW e := by
  show s.mkD i _ e = _
  unfold Sm.mkD mkS
  cases s.mkc[i]? with
  | none => rfl
  | some q =>
    show mkM q.1 q.2.1 q.2.2 _ e = _
    unfold mkM
    rw [bind_app]
    congr 1
    funext ds e'
    rw [iteM_app]
    rfl
@[simp] theorem a_mkW : (sem s (.mk i a)).W e = ((sem s (.mk i a)).V e).bnd lendK := mkV_W ..
@[simp] theorem a_mkV0 : (sem s (.mk i a)).V0 e = (sem s (.mk i a)).V e := _root_.id rfl
@[simp] theorem a_mkH : (sem s (.mk i a)).H e = (sem s (.mk i a)).V e := _root_.id rfl
def mkHK (q : Str × Nat × (List D → FResI)) (ds : List D) : M D := fun e => if ds.length + 1 = q.2.1 ∧ allFL noOwn ds = true then mkE q.1 (q.2.2 (.ins .own q.1 [] :: mapFL pasF ds)) e else .bad
@[simp] theorem mkHK_app (q : Str × Nat × (List D → FResI)) (ds : List D) : mkHK q ds e = if ds.length + 1 = q.2.1 ∧ allFL noOwn ds = true then mkE q.1 (q.2.2 (.ins .own q.1 [] :: mapFL pasF ds)) e else .bad := _root_.id rfl
def mkHS (q : Option (Str × Nat × (List D → FResI))) (r : M (List D)) (e : Env) : Res D := match q with
  | some q => (r e).bnd (mkHK q)
  | none => ((r.bind fun _ => M.bad) : M D) e
@[simp] theorem mkHS_some (q : Str × Nat × (List D → FResI)) (r : M (List D)) : mkHS (some q) r e = (r e).bnd (mkHK q) := _root_.id rfl
@[simp] theorem r_mkh : (sem s (.mkh i a)).V e = mkHS s.mkc[i]? (sem s a).AH e := by
  show s.mkK i _ e = _
  unfold Sm.mkK mkHS
  cases s.mkc[i]? with
  | none => rfl
  | some q =>
    show mkH q.1 q.2.1 q.2.2 _ e = _
    unfold mkH
    rw [bind_app]
    congr 1
    funext ds e'
    rw [iteM_app]
    rfl
@[simp] theorem a_mkhW : (sem s (.mkh i a)).W e = ((sem s (.mkh i a)).V e).bnd lendK := mkV_W ..
@[simp] theorem a_mkhV0 : (sem s (.mkh i a)).V0 e = (sem s (.mkh i a)).V e := _root_.id rfl
@[simp] theorem a_mkhH : (sem s (.mkh i a)).H e = (sem s (.mkh i a)).V e := _root_.id rfl
/-! ### items -/
@[simp] theorem r_itm : (sem s (.itm a)).I e = ((sem s a).V e).bnd (itemsV s.io) := bind_app ..
@[simp] theorem itemsV_dk (io : Bool) (f : Fl) (ks : List (Key × D)) : itemsV io (.dk f ks) e = if allF noLk (.dk f ks) = true ∧ (ks.all fun q => flatD q.2) = true then .ok (ks.map itemV) e else .bad := by
  show (if _ then M.ret _ else M.bad) e = _
  exact iteM_app _ _ _ e
/-! ### comprehensions that leave the list -/
def lcUSel (q : Option (Option D)) (own : List Nat) (i : Nat) (ft : D → Env → Option Env) (t : M Bool) (v : M D) (e : Env) : Res D := match q with
  | some (some (.lst f ds)) => if allFL noOwn ds = true ∧ i ∉ own then (match lcLoop own ft t v ds [] (killAll own (e.set i none)) with
      | .ok d e' => if i < e'.length then .ok d (e'.set i (some (.lst f ds))) else .bad
      | _ => .bad) else .bad
  | _ => .bad
theorem lcU_at (own : List Nat) (i : Nat) (ft : D → Env → Option Env) (t : M Bool) (v : M D) : lcU own i ft t v e = lcUSel e[i]? own i ft t v e := by
  unfold lcU lcUSel
  rfl
def resU (i : Nat) (d0 : D) (r : Res D) : Res D := match r with
  | .ok d e' => if i < e'.length then .ok d (e'.set i (some d0)) else .bad
  | _ => .bad
@[simp] theorem resU_ok (i : Nat) (d0 d : D) : resU i d0 (.ok d e) = if i < e.length then .ok d (e.set i (some d0)) else .bad := _root_.id rfl
@[simp] theorem lcUSel_lst (f : Fl) (ds : List D) (own : List Nat) (i : Nat) (ft : D → Env → Option Env) (t : M Bool) (v : M D) : lcUSel (some (some (.lst f ds))) own i ft t v e = if allFL noOwn ds = true ∧ i ∉ own then resU i (.lst f ds) (lcK own ft t v ds (e.set i none)) else .bad := by
  show (if _ then (match lcLoop own ft t v ds [] (killAll own (e.set i none)) with
      | .ok d e' => if i < e'.length then Res.ok d (e'.set i (some (.lst f ds))) else .bad
      | _ => .bad) else Res.bad) = _
  split
  · show _ = resU i (.lst f ds) (lcLoop own ft t v ds [] (killAll own (e.set i none)))
    unfold resU
    cases lcLoop own ft t v ds [] (killAll own (e.set i none)) <;> rfl
  · rfl
@[simp] theorem r_lcu (own : List Nat) (j : Nat) : (sem s (.lcu own i (.tgn j) ts el)).V e = lcUSel e[i]? own i (putE s.io j) (sem s ts).T (sem s el).V e := _root_.id (lcU_at ..)
@[simp] theorem a_lcuW (own : List Nat) : (sem s (.lcu own i tg ts el)).W e = ((sem s (.lcu own i tg ts el)).V e).bnd lendK := mkV_W ..
@[simp] theorem a_lcuV0 (own : List Nat) : (sem s (.lcu own i tg ts el)).V0 e = (sem s (.lcu own i tg ts el)).V e := _root_.id rfl
@[simp] theorem a_lcuH (own : List Nat) : (sem s (.lcu own i tg ts el)).H e = (sem s (.lcu own i tg ts el)).V e := _root_.id rfl
/-! ### statements -/
def settK (gs : List (D → Env → Option Env)) (d : D) : M Fw := fun e => match tupG gs d e with
  | some e' => .ok .next e'
  | none => .bad
def settS (g : Option (List (D → Env → Option Env))) (r : Res D) : Res Fw := match g with
  | some gs => r.bnd (settK gs)
  | none => .bad
@[simp] theorem settS_some (gs : List (D → Env → Option Env)) (r : Res D) : settS (some gs) r = r.bnd (settK gs) := _root_.id rfl
@[simp] theorem r_sett : (sem s (.sett tg a)).S e = settS (sem s tg).GL ((sem s a).V0 e) := by
  show settG _ _ e = _
  unfold settG settS
  cases (sem s tg).GL with
  | none => rfl
  | some gs =>
    show settM _ gs e = _
    unfold settM
    rw [bind_app]
    dsimp only
    congr 1
    funext d e'
    rw [bind_app]
    unfold liftT settK
    cases tupG gs d e' <;> rfl
@[simp] theorem gl_nil : (sem s .nil).GL = some [] := _root_.id rfl
@[simp] theorem gl_cons : (sem s (.cons a b)).GL = glC (sem s a).G (sem s b).GL := _root_.id rfl
@[simp] theorem g_tgn : (sem s (.tgn i)).G = some (putE s.io i) := _root_.id rfl
@[simp] theorem glC_some (f : D → Env → Option Env) (fs : List (D → Env → Option Env)) : glC (some f) (some fs) = some (f :: fs) := _root_.id rfl
def outE (r : Option Env) : Res Fw := match r with
  | some e => .ok .next e
  | none => .bad
@[simp] theorem outE_some : outE (some e) = .ok .next e := _root_.id rfl
@[simp] theorem settK_app (gs : List (D → Env → Option Env)) (d : D) : settK gs d e = outE (tupG gs d e) := by
  unfold settK outE
  cases tupG gs d e <;> rfl
@[simp] theorem tupG_tup (gs : List (D → Env → Option Env)) (ds : List D) : tupG gs (.tup ds) e = asgAll gs ds e := _root_.id rfl
@[simp] theorem asgAll_nil : asgAll [] [] e = some e := _root_.id rfl
@[simp] theorem asgAll_cons (g : D → Env → Option Env) (gs : List (D → Env → Option Env)) (d : D) (ds : List D) : asgAll (g :: gs) (d :: ds) e = (g d e).bind fun e' => asgAll gs ds e' := _root_.id rfl
@[simp] theorem putE_app (io : Bool) (d : D) : putE io i d e = if i < e.length ∧ (io = false ∨ i ≠ 0) then some (e.set i (some d)) else none := _root_.id rfl
def augSel (io : Bool) (i : Nat) (q : Option (Option D)) (f : M D) (e : Env) : Res Fw := match q with
  | some (some (.int j)) => (f e).bnd (augK io i j)
  | _ => .bad
@[simp] theorem augSel_int (io : Bool) (j : Int) (f : M D) : augSel io i (some (some (.int j))) f e = (f e).bnd (augK io i j) := _root_.id rfl
@[simp] theorem r_aug : (sem s (.aug i a)).S e = augSel s.io i e[i]? (sem s a).W e := by
  show augM s.io i _ e = _
  unfold augM augSel
  cases e[i]? with
  | none => rfl
  | some q =>
    cases q with
    | none => rfl
    | some d => cases d <;> first | rfl | exact bind_app ..
@[simp] theorem augK_int (io : Bool) (j k : Int) : augK io i j (.int k) e = if i < e.length ∧ (io = false ∨ i ≠ 0) then .ok .next (e.set i (some (.int (j + k)))) else .bad := by
  show ((liftT (putE io i) (.int (j + k))).bind fun _ => M.ret Fw.next) e = _
  rw [bind_app]
  unfold liftT
  rw [putE_app]
  by_cases h : (i < e.length ∧ (io = false ∨ i ≠ 0))
  · rw [if_pos h, if_pos h]; rfl
  · rw [if_neg h, if_neg h]; rfl
def stfK (it : FTab) (x : Str) (v : D) (q : Nat × Pth) : M Fw := fun e => optE (stfE it q x v e)
def stfK1 (it : FTab) (x : Str) (o : M (Nat × Pth)) (v : D) : M Fw := o.bind (stfK it x v)
@[simp] theorem stfK1_app (it : FTab) (o : M (Nat × Pth)) (v : D) : stfK1 it x o v e = (o e).bnd (stfK it x v) := bind_app ..
@[simp] theorem r_stf : (sem s (.stf x v o)).S e = ((sem s v).V0 e).bnd (stfK1 s.it x (sem s o).PL0) := bind_app ..
/-- a field of the thing at a name -/
def stfSel (it : FTab) (i : Nat) (q : Option (Option D)) (x : Str) (v : D) (e : Env) : Res Fw := match q with
  | some (some (.ins .own c fs)) => if fldOk [] it x (.ins .own c fs) = true ∧ fs.length < 900 then .ok .next (e.set i (some (.ins .own c (setA fs x v)))) else .bad
  | _ => .bad
@[simp] theorem stfSel_ins (it : FTab) (fs : List (Str × D)) (v : D) : stfSel it i (some (some (.ins .own c fs))) x v e = if fldOk [] it x (.ins .own c fs) = true ∧ fs.length < 900 then .ok .next (e.set i (some (.ins .own c (setA fs x v)))) else .bad := _root_.id rfl
@[simp] theorem stfK_slot (it : FTab) (v : D) : stfK it x v (i, []) e = stfSel it i e[i]? x v e := by
  unfold stfK stfE stfSel
  rw [atP_slot]
  cases h : e[i]? with
  | none => rfl
  | some q =>
    cases q with
    | none => rfl
    | some d =>
      cases d with
      | ins f c fs =>
        cases f <;> first | rfl | skip
        show optE (if _ then some (setAt (i, []) _ e) else none) = _
        rw [optE_ite, setAt_slot h]; rfl
      | _ => rfl
theorem fldOk_ins (xt it : FTab) (f : Fl) (fs : List (Str × D)) : fldOk xt it x (.ins f c fs) = match it.lookup c with | some ns => decide (x ∈ ns) | none => false := rfl
@[simp] theorem setA_nil {κ α : Type} [DecidableEq κ] (k : κ) (b : α) : setA ([] : List (κ × α)) k b = [(k, b)] := _root_.id rfl
end
/-! ### texts: the greater, the less; sizes of dicts -/
@[simp] theorem len_dk (f : Fl) (ks : List (Key × D)) : bltD 0 [.dk f ks] = some (.sc (.int ks.length)) := _root_.id rfl
@[simp] theorem min_str (i j : Str) : bltD 2 [.str i, .str j] = some (.sc (.str (if ltS j i = true then j else i))) := _root_.id rfl
@[simp] theorem max_str (i j : Str) : bltD 3 [.str i, .str j] = some (.sc (.str (if ltS i j = true then j else i))) := _root_.id rfl
@[simp] theorem min_strs (f : Fl) (l : List Str) : bltD 2 [.lst f (l.map D.str)] = (minS l).map fun m => .sc (.str m) := by
  show (strsD (l.map D.str)).bind _ = _
  rw [strsD_str]; rfl
/-! ### a list of odd things against none -/
@[simp] theorem eqD_nils (f g : Fl) : eqD (.lst f []) (.lst g []) = some (.sc (.bl true)) := eqD_ints f g [] []
@[simp] theorem neD_nils (f g : Fl) : neD (.lst f []) (.lst g []) = some (.sc (.bl false)) := neD_ints f g [] []
end DG

set_option Elab.async false
set_option linter.all false
set_option maxRecDepth 100000
namespace L
open DG PySem PySem.Spec PyProof.Rows L2
set_option autoImplicit false
def cf_is_row : Cf := { N := ["row", "wide", "sign"], nl := [0, 1], cs := [("MOST", .cI (40)), ("LETTERS", .cT "abcdefghijklmnopqrstuvwxyz"), ("AIR", .cT ".")], bl := ["all", "len"] }
def c_is_row : CE := (.sq (.ite (.ro (.nt (.chn .LtE .LtE (.cI (1)) (.blt 0 (.cons (.np 0) .nil)) (.cI (40)))) (.cmp .NotEq (.blt 0 (.cons (.np 0) .nil)) (.np 1))) (.ret (.cB false)) .nx) (.ret (.blt 4 (.cons (.lc [2] (.tgn 2) (.np 0) .yes (.ro (.cmp .In (.nm 2) (.cT "abcdefghijklmnopqrstuvwxyz")) (.cmp .Eq (.nm 2) (.cT ".")))) .nil))))
def F_is_row : List D → FRes := fnRun 3 (sem {} c_is_row).S
def cf_has_hole : Cf := { N := ["above", "row", "upper", "lower"], nl := [0, 1, 2, 3], cs := [("AIR", .cT ".")], bl := ["zip"] }
def c_has_hole_b1 : CE := (.ite (.an (.cmp .NotEq (.np 2) (.cT ".")) (.cmp .Eq (.np 3) (.cT "."))) (.ret (.cB true)) .nx)
def c_has_hole : CE := (.sq (.fr (.tgt (.cons (.tgn 2) (.cons (.tgn 3) .nil))) (.zp (.np 0) (.np 1)) c_has_hole_b1) (.ret (.cB false)))
def F_has_hole : List D → FRes := fnRun 4 (sem {} c_has_hole).S
def cf_rows_of : Cf := { N := ["text", "rows", "number", "row", "sign"], nl := [0, 1, 2, 3], fn := ["has_hole", "is_row"], cs := [("MOST", .cI (40)), ("AIR", .cT ".")], bl := ["enumerate", "all", "isinstance", "str", "len"], exo := [("NoCut", ["row"])] }
def c_rows_of_b1 : CE := (.sq (.ite (.ro (.cmp .Eq (.np 2) (.cI (40))) (.nt (.call 1 (.cons (.np 3) (.cons (.blt 0 (.cons (.sub (.np 1) (.cI (0))) .nil)) .nil))))) (.rai "NoCut" ["row"] (.cons (.np 2) .nil)) .nx) (.ite (.an (.cmp .Gt (.np 2) (.cI (0))) (.call 0 (.cons (.sub (.np 1) (.bin .Sub (.np 2) (.cI (1)))) (.cons (.np 3) .nil)))) (.rai "NoCut" ["row"] (.cons (.np 2) .nil)) .nx))
def c_rows_of : CE := (.sq (.ite (.nt (.isi (.cons (.np 0) (.cons (.ty "str") .nil)))) (.rai "NoCut" ["row"] (.cons (.cI (0)) .nil)) .nx) (.sq (.set 1 (.met 1 (.np 0) (.cT ⟨#[10]⟩))) (.sq (.fr (.tgt (.cons (.tgn 2) (.cons (.tgn 3) .nil))) (.enu (.np 1)) c_rows_of_b1) (.sq (.ite (.blt 4 (.cons (.lc [4] (.tgn 4) (.sub (.np 1) (.neg (.cI (1)))) .yes (.cmp .Eq (.nm 4) (.cT "."))) .nil)) (.rai "NoCut" ["row"] (.cons (.cI (0)) .nil)) .nx) (.ret (.np 1))))))
def F_rows_of : List D → FRes := fnRun 5 (sem { fs := [(2, F_has_hole), (2, F_is_row)] } c_rows_of).S
def cf_law_cell_at : Cf := { N := ["_law_script", "_law_k"], nl := [0, 1], bl := ["len"] }
def c_law_cell_at : CE := (.sq (.ite (.cmp .Lt (.np 1) (.blt 0 (.cons (.np 0) .nil))) (.ret (.sub (.np 0) (.np 1))) .nx) (.ret (.cI (0))))
def F_law_cell_at : List D → FRes := fnRun 2 (sem {} c_law_cell_at).S
def cf_law_mixed : Cf := { N := ["_law_cell", "_law_k", "_law_one", "_law_two"], nl := [0, 1, 2, 3] }
def c_law_mixed : CE := (.sq (.set 2 (.bin .Mod (.bin .Mult (.bin .Add (.bin .Add (.bin .Mod (.np 0) (.cI (1000003))) (.bin .Mult (.cI (7919)) (.np 1))) (.cI (1))) (.cI (48271))) (.cI (2147483629)))) (.sq (.set 3 (.bin .Mod (.bin .Add (.bin .Mult (.np 2) (.np 2)) (.bin .Mult (.bin .Mult (.cI (104729)) (.np 1)) (.np 1))) (.cI (2147483587)))) (.ret (.bin .Mod (.bin .Mult (.np 3) (.np 3)) (.cI (2147483563))))))
def F_law_mixed : List D → FRes := fnRun 4 (sem {} c_law_mixed).S
def cf_law_row : Cf := { N := ["_law_script", "_law_many", "_law_found", "_law_number", "_law_k"], nl := [0, 1, 2, 3, 4], fn := ["_law_cell_at", "_law_mixed"], bl := ["range", "max", "len"] }
def c_law_row_b1 : CE := (.sq (.ite (.cmp .Eq (.bin .Mod (.np 4) (.cI (40))) (.cI (0))) (.set 3 (.call 0 (.cons (.np 0) (.cons (.bin .Add (.cI (1)) (.bin .FloorDiv (.np 4) (.cI (40)))) .nil)))) .nx) (.ite (.an (.cmp .Eq (.bin .Mod (.call 0 (.cons (.np 0) (.cons (.cI (0)) .nil))) (.cI (2))) (.cI (0))) (.cmp .Gt (.np 3) (.cI (0)))) (.sq (.ex (.lmt 0 (.np 2) (.cons (.bin .Mod (.np 3) (.cI (9973))) .nil))) (.set 3 (.bin .FloorDiv (.np 3) (.cI (9973))))) (.ex (.lmt 0 (.np 2) (.cons (.bin .Mod (.call 1 (.cons (.call 0 (.cons (.np 0) (.cons (.bin .Add (.cI (1)) (.bin .Mod (.np 4) (.blt 3 (.cons (.cI (1)) (.cons (.bin .Sub (.blt 0 (.cons (.np 0) .nil)) (.cI (1))) .nil))))) .nil))) (.cons (.np 4) .nil))) (.cI (9973))) .nil)))))
def c_law_row : CE := (.sq (.set 2 (.lst .nil)) (.sq (.set 3 (.cI (0))) (.sq (.fr (.tgn 4) (.rng1 (.np 1)) c_law_row_b1) (.ret (.np 2)))))
def F_law_row : List D → FRes := fnRun 5 (sem { fs := [(2, F_law_cell_at), (2, F_law_mixed)] } c_law_row).S
def cf_law_signs : Cf := { N := ["_law_number", "_law_wild"], nl := [0, 1] }
def c_law_signs : CE := (.sq (.ite (.cmp .Eq (.bin .Mod (.np 0) (.cI (5))) (.cI (0))) (.ret (.sub (.cT "abcdefghijklmnopqrstuvwxyz") (.bin .Mod (.bin .FloorDiv (.np 0) (.cI (5))) (.cI (26))))) .nx) (.ret (.sub (.cT "abcdefghijklmnopqrstuvwxyz") (.bin .Mod (.bin .Add (.bin .Mod (.bin .FloorDiv (.np 0) (.cI (5))) (.cI (4))) (.np 1)) (.cI (26))))))
def F_law_signs : List D → FRes := fnRun 2 (sem {} c_law_signs).S
def cf_law_drawn : Cf := { N := ["_law_row_here", "_law_wide", "_law_high", "_law_rows", "_law_tops", "_law_k", "_law_signs_here", "_law_j", "_law_number"], nl := [0, 1, 2, 3, 4, 6, 7, 8], fn := ["_law_signs"], bl := ["range", "max", "int"] }
def c_law_drawn_b1 : CE := (.sq (.set 8 (.bin .Add (.bin .Add (.bin .FloorDiv (.sub (.np 0) (.bin .Add (.cI (2)) (.bin .Mod (.bin .Add (.np 7) (.bin .Mult (.cI (5)) (.np 5))) (.cI (38))))) (.bin .Add (.cI (7)) (.bin .Mod (.np 5) (.cI (3))))) (.np 5)) (.np 7))) (.ex (.lmt 0 (.np 6) (.cons (.sub (.lst (.cons (.cT ".") (.cons (.call 0 (.cons (.np 8) (.cons (.bin .Mod (.sub (.np 0) (.cI (1))) (.cI (26))) .nil))) .nil))) (.blt 9 (.cons (.cmp .GtE (.np 5) (.sub (.np 4) (.np 7))) .nil))) .nil))))
def c_law_drawn_b2 : CE := (.sq (.set 6 (.lst .nil)) (.sq (.fr (.tgn 7) (.rng1 (.np 1)) c_law_drawn_b1) (.ex (.lmt 0 (.np 3) (.cons (.met 0 (.cT "") (.np 6)) .nil)))))
def c_law_drawn : CE := (.sq (.set 1 (.bin .Add (.cI (1)) (.bin .Mod (.sub (.np 0) (.cI (0))) (.cI (6))))) (.sq (.set 2 (.bin .Add (.cI (1)) (.bin .Mod (.bin .FloorDiv (.sub (.np 0) (.cI (0))) (.cI (6))) (.cI (6))))) (.sq (.ite (.cmp .Eq (.bin .Mod (.bin .FloorDiv (.sub (.np 0) (.cI (0))) (.cI (36))) (.cI (6))) (.cI (1))) (.sq (.set 1 (.bin .Add (.cI (1)) (.bin .Mod (.sub (.np 0) (.cI (1))) (.cI (40))))) (.set 2 (.bin .Add (.cI (1)) (.bin .Mod (.bin .FloorDiv (.sub (.np 0) (.cI (1))) (.cI (40))) (.cI (40)))))) .nx) (.sq (.set 3 (.lst .nil)) (.sq (.set 4 (.lc [5] (.tgn 5) (.rng1 (.np 1)) .yes (.blt 3 (.cons (.cI (0)) (.cons (.bin .Sub (.bin .Mod (.sub (.np 0) (.bin .Add (.cI (2)) (.bin .Mod (.nm 5) (.cI (38))))) (.bin .Add (.np 2) (.cI (3)))) (.cI (2))) .nil))))) (.sq (.sto (.cI (0)) (.np 4) (.bin .Mod (.bin .FloorDiv (.sub (.np 0) (.cI (0))) (.cI (216))) (.np 1))) (.sq (.fr (.tgn 5) (.rng1 (.np 2)) c_law_drawn_b2) (.ret (.np 3)))))))))
def F_law_drawn : List D → FRes := fnRun 9 (sem { fs := [(2, F_law_signs)] } c_law_drawn).S
end L

set_option Elab.async false
set_option linter.all false
set_option maxRecDepth 100000
namespace L
open DG PySem PySem.Spec PyProof.Rows L2
set_option autoImplicit false
/-! ### signs, texts -/
def abc : Str := "abcdefghijklmnopqrstuvwxyz"
def air : Str := "."
def nlS : Str := ⟨#[10]⟩
def one (c : Nat) : Str := ⟨#[c]⟩
def low (c : Nat) : Bool := decide (97 ≤ c ∧ c ≤ 122)
theorem abc_list : abc.cps.toList = [97, 98, 99, 100, 101, 102, 103, 104, 105, 106, 107, 108, 109, 110, 111, 112, 113, 114, 115, 116, 117, 118, 119, 120, 121, 122] := by decide +kernel
theorem sub_abc (c : Nat) : subS (one c) abc = low c := by
  have h : subS ⟨#[c]⟩ abc = decide (c ∈ abc.cps.toList) := PySem.StrLaws.found_one abc c
  show subS ⟨#[c]⟩ abc = _
  rw [h, abc_list]
  unfold low
  congr 1
  simp only [List.mem_cons, List.not_mem_nil, or_false, eq_iff_iff]
  omega
theorem one_eq (c d : Nat) : (one c = one d) ↔ c = d := by unfold one; simp
theorem air_one : air = one 46 := by decide +kernel
theorem chars_one (x : Str) : chars x = x.cps.toList.map fun c => .str (one c) := rfl
theorem chars_map (x : Str) : chars x = (x.cps.toList.map one).map .str := by rw [List.map_map]; rfl
def okSign (c : Nat) : Bool := low c || decide (c = 46)
def rowOk (x : Str) (w : Int) : Bool := decide (1 ≤ x.length ∧ x.length ≤ 40) && decide ((x.length : Int) = w) && x.cps.toList.all okSign
theorem is_row_ok (x : Str) (w : Int) (hx : x.length ≤ sizeLine) : F_is_row [.str x, .int w] = .ok (.bl (rowOk x w)) := by
  have e1 : Str.ofString "abcdefghijklmnopqrstuvwxyz" = abc := rfl
  have e2 : Str.ofString "." = air := rfl
  have hlc : x.length ≤ 40 → lcK [2] (putE false 2) (M.ret true) (sem {} (.ro (.cmp .In (.nm 2) (.cT "abcdefghijklmnopqrstuvwxyz")) (.cmp .Eq (.nm 2) (.cT ".")))).V (chars x) [some (.str x), some (.int w), none] = .ok (.lst .own (x.cps.toList.map fun c => .bl (okSign c))) [some (.str x), some (.int w), none] := fun h => by
    rw [chars_one]
    refine lcK_map _ (fun c => .bl (okSign c)) _ (line_ge (by have : x.cps.toList.length = x.length := rfl; omega)) fun c hc => ?_
    refine ⟨_, rfl, [some (.str x), some (.int w), some (.str (one c))], ?_, rfl⟩
    by_cases hl : low c = true
    · simp [e1, e2, lend, sub_abc, hl, okSign]
    · simp [e1, e2, lend, sub_abc, hl, okSign, air_one, one_eq]
  have hb := blsD_map okSign x.cps.toList
  simp only [F_is_row, fnRun, c_is_row, rowOk]
  by_cases h1 : 1 ≤ x.length
  · by_cases h2 : x.length ≤ 40
    · have c1 : (1 : Int) ≤ x.length := by omega
      have c2 : ¬ (40 : Int) < x.length := by omega
      by_cases h3 : (x.length : Int) = w
      · subst h3
        simp [lend, hx, c1, c2, h1, h2, hlc h2, hb]
      · simp [lend, hx, c1, c2, h1, h2, h3]
    · have c1 : (1 : Int) ≤ x.length := by omega
      have c2 : (40 : Int) < x.length := by omega
      simp [lend, hx, c1, c2, h1, h2]
  · have c1 : ¬ (1 : Int) ≤ x.length := by omega
    simp [lend, hx, c1, h1]
def holeAt (q : Nat × Nat) : Bool := !decide (q.1 = 46) && decide (q.2 = 46)
def hole (a b : Str) : Bool := (a.cps.toList.zip b.cps.toList).any holeAt
theorem zip_chars : ∀ a b : List Nat, zipD (a.map fun c => .str (one c)) (b.map fun c => .str (one c)) = (a.zip b).map fun q => .tup [.str (one q.1), .str (one q.2)]
  | [], _ => by cases ‹List Nat› <;> rfl
  | a :: as, [] => rfl
  | a :: as, b :: bs => by
    rw [List.map_cons, List.map_cons, List.zip_cons_cons, List.map_cons, ← zip_chars as bs]; rfl
theorem has_hole_ok (a b : Str) : F_has_hole [.str a, .str b] = .ok (.bl (hole a b)) := by
  have e2 : Str.ofString "." = air := rfl
  refine fn_by rfl (by simp) ?_
  have hz : zipD (chars a) (chars b) = (a.cps.toList.zip b.cps.toList).map fun q => .tup [.str (one q.1), .str (one q.2)] := zip_chars _ _
  simp [c_has_hole, zipL, hz]
  refine wp_sq (wp_loop (fun i e => (∃ z1 z2, e = [some (.str a), some (.str b), z1, z2]) ∧ ((a.cps.toList.zip b.cps.toList).take i).any holeAt = false) ⟨⟨_, _, rfl⟩, rfl⟩ (fun i q e hq ⟨⟨z1, z2, he⟩, hI⟩ => ?_) fun e ⟨⟨z1, z2, he⟩, hI⟩ => ?_)
  · subst he
    have hm : q ∈ a.cps.toList.zip b.cps.toList := List.mem_of_getElem? hq
    refine ⟨[some (.str a), some (.str b), some (.str (one q.1)), some (.str (one q.2))], rfl, ?_⟩
    have go : holeAt q = false → ((a.cps.toList.zip b.cps.toList).take (i + 1)).any holeAt = false := fun h => by
      rw [List.take_succ, List.any_append, hI, hq]; simp [h]
    have st : holeAt q = true → hole a b = true := fun h => List.any_eq_true.mpr ⟨q, hm, h⟩
    by_cases h1 : q.1 = 46 <;> by_cases h2 : q.2 = 46 <;> simp [c_has_hole_b1, lend, e2, air_one, one_eq, h1, h2, holeAt, st, go]
  · subst he
    have : hole a b = false := by rw [List.take_length] at hI; exact hI
    simp [this]
end L
namespace L
open DG PySem PySem.Spec PyProof.Rows L2
def nth (l : List Str) (i : Nat) : Str := l.getD i air
def cutBad (rows : List Str) (i : Nat) : Bool := decide (i = 40) || !rowOk (nth rows i) (nth rows 0).length || (decide (0 < i) && hole (nth rows (i - 1)) (nth rows i))
def allAir (x : Str) : Bool := x.cps.toList.all fun c => decide (c = 46)
def noCut (n : Nat) : FRes := .exc "NoCut" [("row", .int n)]
def rowsOf (rows : List Str) : FRes := match (List.range rows.length).find? (cutBad rows) with
  | some i => noCut i
  | none => if allAir (nth rows (rows.length - 1)) = true then noCut 0 else .ok (.lst .own (rows.map .str))
theorem nth_get {l : List Str} {i : Nat} {x : Str} (h : l[i]? = some x) : nth l i = x := by unfold nth; rw [List.getD_eq_getElem?_getD, h]; rfl
theorem rows_of_ok (x : Str) (hx : x.length + 2 ≤ sizeLine) (rows : List Str) (hr : Txt.split x nlS = rows) (hne : rows ≠ []) (hl : ∀ r ∈ rows, r.length ≤ sizeLine) : F_rows_of [.str x] = rowsOf rows := by
  have e2 : Str.ofString "." = air := rfl
  have e3 : (⟨#[10]⟩ : Str) = nlS := rfl
  refine fn_by rfl (by simp) ?_
  have h1 : (nlS.length == 0) = false := by decide +kernel
  have hen : enumD 0 (rows.map D.str) = rows.zipIdx.map fun q => .tup [.int (q.2 : Nat), .str q.1] := enumD_map _ _ 0
  simp [c_rows_of, lend, kitB, e3, h1, hx, hr, hen]
  refine wp_sq (wp_loop (fun i e => (∃ z1 z2, e = [some (.str x), some (.lst .fr (rows.map .str)), z1, z2, none]) ∧ ∀ j < i, cutBad rows j = false) ⟨⟨_, _, rfl⟩, fun j h => absurd h (Nat.not_lt_zero _)⟩ (fun i q e hq ⟨⟨z1, z2, he⟩, hI⟩ => ?_) fun e ⟨⟨z1, z2, he⟩, hI⟩ => ?_)
  · subst he
    obtain ⟨y, rfl⟩ : ∃ y, q = (y, i) := by
      rw [List.getElem?_zipIdx] at hq
      cases hy : rows[i]? with
      | none => rw [hy] at hq; cases hq
      | some y => rw [hy] at hq; exact ⟨y, by simpa using hq.symm⟩
    have hy : rows[i]? = some y := by
      rw [List.getElem?_zipIdx] at hq
      cases hy : rows[i]? with
      | none => rw [hy] at hq; cases hq
      | some y' => rw [hy] at hq; simp at hq; rw [hq]
    have hi : i < rows.length := (List.getElem?_eq_some_iff.mp hy).1
    refine ⟨[some (.str x), some (.lst .fr (rows.map .str)), some (.int i), some (.str y), none], rfl, ?_⟩
    have ny : nth rows i = y := nth_get hy
    have at0 : atI (rows.map D.str) 0 = some (.str (nth rows 0)) := atI_get (by omega) (by
      have h0 : 0 < rows.length := by omega
      rw [List.getElem?_map, show (0 : Int).toNat = 0 from rfl, List.getElem?_eq_getElem h0, nth_get (List.getElem?_eq_getElem h0)]; rfl)
    have n0 : (nth rows 0).length ≤ sizeLine := hl _ (by
      have h0 : 0 < rows.length := by omega
      rw [nth_get (List.getElem?_eq_getElem h0)]; exact List.getElem_mem h0)
    have hrow := is_row_ok y (nth rows 0).length (hl y (List.mem_of_getElem? hy))
    have fin : cutBad rows i = true → rowsOf rows = noCut i := fun hb => by
      unfold rowsOf
      have : (List.range rows.length).find? (cutBad rows) = some i := by
        rw [List.find?_range_eq_some]
        exact ⟨hb, List.mem_range.mpr hi, fun j hj => by simp [hI j hj]⟩
      rw [this]
    have go : cutBad rows i = false → ∀ j < i + 1, cutBad rows j = false := fun hb j hj => by
      rcases Nat.lt_or_eq_of_le (Nat.le_of_lt_succ hj) with h | h
      · exact hI j h
      · subst h; exact hb
    have c1 : (i : Int) = 40 ↔ i = 40 := by omega
    unfold cutBad at fin go
    rw [ny] at fin go
    by_cases b1 : i = 40
    · have := fin (by simp [b1])
      subst b1
      simp [c_rows_of_b1, noCut, this, allFS]
    · by_cases b2 : rowOk y (nth rows 0).length = true
      · by_cases b3 : 0 < i
        · have at1 : atI (rows.map D.str) ((i : Int) - 1) = some (.str (nth rows (i - 1))) := atI_get (by omega) (by
            have h0 : i - 1 < rows.length := by omega
            rw [List.getElem?_map, show ((i : Int) - 1).toNat = i - 1 by omega, List.getElem?_eq_getElem h0, nth_get (List.getElem?_eq_getElem h0)]; rfl)
          have hhole := has_hole_ok (nth rows (i - 1)) y
          by_cases b4 : hole (nth rows (i - 1)) y = true
          · have := fin (by simp [b4, b3])
            simp [c_rows_of_b1, lend, c1, b1, b2, b3, b4, at0, at1, n0, hrow, hhole, noCut, this, allFS]
          · have := go (by simp [b1, b2, b4])
            simp [c_rows_of_b1, lend, c1, b1, b2, b3, b4, at0, at1, n0, hrow, hhole]
            exact this
        · have := go (by simp [b1, b2, b3])
          simp [c_rows_of_b1, lend, c1, b1, b2, b3, at0, n0, hrow]
          exact this
      · have := fin (by simp [b2])
        simp [c_rows_of_b1, lend, c1, b1, b2, at0, n0, hrow, noCut, this, allFS]
  · subst he
    rw [List.length_zipIdx] at hI
    have hlen : 0 < rows.length := List.length_pos_iff.mpr hne
    have hno : (List.range rows.length).find? (cutBad rows) = none := by
      rw [List.find?_eq_none]
      intro j hj
      rw [hI j (List.mem_range.mp hj)]; exact Bool.false_ne_true
    generalize hz : nth rows (rows.length - 1) = z
    have hzr : rows[rows.length - 1]? = some z := by
      rw [← hz, List.getElem?_eq_getElem (by omega), nth_get (List.getElem?_eq_getElem (by omega))]
    have atl : atI (rows.map D.str) (-1) = some (.str z) := atI_last (by rw [List.getLast?_eq_getElem?, List.length_map, List.getElem?_map, hzr]; rfl)
    have zl : z.length ≤ 40 := by
      have := hI (rows.length - 1) (by omega)
      unfold cutBad at this
      rw [hz] at this
      simp only [Bool.or_eq_false_iff, Bool.not_eq_false'] at this
      have := this.1.2
      unfold rowOk at this
      simp only [Bool.and_eq_true, decide_eq_true_eq] at this
      exact this.1.1.2
    have hlc : lcK [4] (putE false 4) (M.ret true) (sem { fs := [(2, F_has_hole), (2, F_is_row)] } (.cmp .Eq (.nm 4) (.cT "."))).V (chars z) [some (.str x), some (.lst .fr (rows.map .str)), z1, z2, none] = .ok (.lst .own (z.cps.toList.map fun c => .bl (decide (c = 46)))) [some (.str x), some (.lst .fr (rows.map .str)), z1, z2, none] := by
      rw [chars_one]
      refine lcK_map _ (fun c => .bl (decide (c = 46))) _ (line_ge (by have : z.cps.toList.length = z.length := rfl; omega)) fun c hc => ?_
      refine ⟨_, rfl, [some (.str x), some (.lst .fr (rows.map .str)), z1, z2, some (.str (one c))], ?_, rfl⟩
      simp [e2, lend, air_one, one_eq]
    have hb := blsD_map (fun c => decide (c = 46)) z.cps.toList
    have one1 : 1 ≤ sizeLine := line_ge (by omega)
    unfold rowsOf
    rw [hno, hz]
    by_cases ha : allAir z = true
    · have ha2 : (z.cps.toList.map fun c => decide (c = 46)).all id = true := by rw [List.all_map]; exact ha
      simp [lend, atl, hlc, hb, ha2, ha, noCut]
    · have ha2 : (z.cps.toList.map fun c => decide (c = 46)).all id = false := by rw [List.all_map]; exact Bool.eq_false_iff.mpr ha
      simp [lend, atl, hlc, hb, ha2, ha]
end L
namespace L
open DG PySem PySem.Spec PyProof.Rows L2
/-! ### the law's script -/
/-- the cell of a script at k -/
def cellAt (ns : List Int) (k : Int) : Int := if k < ns.length then (atI ns k).getD 0 else 0
theorem atI_map {α β : Type} (f : α → β) (xs : List α) (i : Int) : atI (xs.map f) i = (atI xs i).map f := by
  unfold atI
  rw [List.length_map]
  cases ixN xs.length i with
  | none => rfl
  | some n => rw [Option.bind_some, Option.bind_some, List.getElem?_map]
theorem atI_some {α : Type} {xs : List α} {i : Int} (h0 : 0 ≤ i) (h1 : i < xs.length) : ∃ x, atI xs i = some x ∧ x ∈ xs := by
  have hi : i.toNat < xs.length := by omega
  exact ⟨xs[i.toNat], atI_get h0 (List.getElem?_eq_getElem hi), List.getElem_mem hi⟩
theorem cell_at_ok (ns : List Int) (k : Int) (h0 : 0 ≤ k) (f : Fl) : F_law_cell_at [.lst f (ns.map .int), .int k] = .ok (.int (cellAt ns k)) := by
  unfold cellAt
  by_cases h : k < ns.length
  · obtain ⟨x, hx, _⟩ := atI_some h0 h
    simp [F_law_cell_at, fnRun, c_law_cell_at, lend, h, atI_map, hx]
  · simp [F_law_cell_at, fnRun, c_law_cell_at, lend, h]
def mix1 (a k : Int) : Int := (a % 1000003 + 7919 * k + 1) * 48271 % 2147483629
def mix2 (a k : Int) : Int := (mix1 a k * mix1 a k + 104729 * k * k) % 2147483587
def mix (a k : Int) : Int := mix2 a k * mix2 a k % 2147483563
theorem mix1_lt (a k : Int) : 0 ≤ mix1 a k ∧ mix1 a k < 2147483629 := by unfold mix1; omega
theorem mix2_lt (a k : Int) : 0 ≤ mix2 a k ∧ mix2 a k < 2147483587 := by unfold mix2; omega
theorem mix_lt (a k : Int) : 0 ≤ mix a k ∧ mix a k < 2147483563 := by unfold mix; omega
theorem mixed_ok (a k : Int) (h1 : -1000 ≤ k) (h2 : k ≤ 1000000) : F_law_mixed [.int a, .int k] = .ok (.int (mix a k)) := by
  have c1 : -18446744073709551616 < mix1 a k ∧ mix1 a k < 18446744073709551616 := by have := mix1_lt a k; omega
  have c2 : -18446744073709551616 < mix2 a k ∧ mix2 a k < 18446744073709551616 := by have := mix2_lt a k; omega
  have c3 : -18446744073709551616 < k ∧ k < 18446744073709551616 := by omega
  have e1 : (a % 1000003 + 7919 * k + 1) * 48271 % 2147483629 = mix1 a k := rfl
  have e2 : (mix1 a k * mix1 a k + 104729 * k * k) % 2147483587 = mix2 a k := rfl
  have e3 : mix2 a k * mix2 a k % 2147483563 = mix a k := rfl
  simp [F_law_mixed, fnRun, c_law_mixed, lend, e1, c1, e2, c2, c3, e3]
end L
namespace L
open DG PySem PySem.Spec PyProof.Rows L2
end L
namespace L
open DG PySem PySem.Spec PyProof.Rows L2
theorem range_get {n i q : Nat} (h : (List.range n)[i]? = some q) : q = i ∧ i < n := by
  obtain ⟨h1, h2⟩ := List.getElem?_eq_some_iff.mp h
  rw [List.getElem_range] at h2
  exact ⟨h2.symm, by simpa using h1⟩
theorem row_ok (ns : List Int) (hn : ns.length ≤ 63) (m : Nat) (hm : m ≤ 1000) (f : Fl) : ∃ r : List Int, F_law_row [.lst f (ns.map .int), .int m] = .ok (.lst .own (r.map .int)) ∧ r.length = m ∧ ∀ x ∈ r, 0 ≤ x ∧ x < 9973 := by
  have hk : rngOk m := by unfold rngOk; omega
  refine fn_run (F := F_law_row) (fun o => ∃ r : List Int, o = .ok (.lst .own (r.map .int)) ∧ r.length = m ∧ ∀ x ∈ r, 0 ≤ x ∧ x < 9973) rfl (by simp) ?_
  simp [c_law_row, hk]
  refine wp_sq (wp_loop (xs := List.range m) (emb := fun i : Nat => .int (0 + i)) (fun i e => ∃ (l : List Int) (nb : Int) (z : Option D), e = [some (.lst f (ns.map .int)), some (.int m), some (.lst .own (l.map .int)), some (.int nb), z] ∧ l.length = i ∧ ∀ x ∈ l, 0 ≤ x ∧ x < 9973) ⟨[], 0, none, rfl, rfl, by simp⟩ (fun i q e hq ⟨l, nb, z, he, hl, hI⟩ => ?_) fun e ⟨l, nb, z, he, hl, hI⟩ => ?_)
  · subst he
    obtain ⟨rfl, hi⟩ := range_get hq
    refine ⟨_, rfl, ?_⟩
    have hl2 : l.length < sizeLine := line_gt (by omega)
    have c0 := cell_at_ok ns 0 (by omega) .ro
    have c1 := cell_at_ok ns (1 + (q : Int) / 40) (by omega) .ro
    generalize cellAt ns (1 + (q : Int) / 40) = n2 at c1
    have c2 := cell_at_ok ns (1 + (q : Int) % (if (ns.length : Int) - 1 > 1 then (ns.length : Int) - 1 else 1)) (by have : 0 ≤ (q : Int) % (if (ns.length : Int) - 1 > 1 then (ns.length : Int) - 1 else 1) := Int.emod_nonneg _ (by split <;> omega); omega) .ro
    generalize cellAt ns (1 + (q : Int) % (if (ns.length : Int) - 1 > 1 then (ns.length : Int) - 1 else 1)) = n3 at c2
    have hm2 := mixed_ok n3 q (by omega) (by omega)
    generalize mix n3 q = mm at hm2
    have pos : 0 < (if (ns.length : Int) - 1 > 1 then (ns.length : Int) - 1 else 1) := by split <;> omega
    have fin : ∀ x : Int, 0 ≤ x → x < 9973 → (l ++ [x]).length = q + 1 ∧ ∀ y ∈ l ++ [x], 0 ≤ y ∧ y < 9973 := fun x h1 h2 =>
      ⟨by simp [hl], fun y hy => (List.mem_append.mp hy).elim (hI y) fun z => by rw [List.mem_singleton.mp z]; exact ⟨h1, h2⟩⟩
    have f1 := fin (mm % 9973) (by omega) (by omega)
    by_cases b1 : (q : Int) % 40 = 0
    · by_cases b2 : cellAt ns 0 % 2 = 0 ∧ 0 < n2
      · have f2 := fin (n2 % 9973) (by omega) (by omega)
        simp [c_law_row_b1, lend, b1, b2.1, b2.2, c0, c1, hl2]
        exact ⟨l ++ [n2 % 9973], by simp, f2.1, f2.2⟩
      · by_cases b3 : cellAt ns 0 % 2 = 0
        · have b4 : ¬ 0 < n2 := fun z => b2 ⟨b3, z⟩
          simp [c_law_row_b1, lend, b1, b3, b4, c0, c1, c2, hm2, pos, hl2]
          exact ⟨l ++ [mm % 9973], by simp, f1.1, f1.2⟩
        · simp [c_law_row_b1, lend, b1, b3, c0, c1, c2, hm2, pos, hl2]
          exact ⟨l ++ [mm % 9973], by simp, f1.1, f1.2⟩
    · by_cases b2 : cellAt ns 0 % 2 = 0 ∧ 0 < nb
      · have f2 := fin (nb % 9973) (by omega) (by omega)
        simp [c_law_row_b1, lend, b1, b2.1, b2.2, c0, hl2]
        exact ⟨l ++ [nb % 9973], by simp, f2.1, f2.2⟩
      · by_cases b3 : cellAt ns 0 % 2 = 0
        · have b4 : ¬ 0 < nb := fun z => b2 ⟨b3, z⟩
          simp [c_law_row_b1, lend, b1, b3, b4, c0, c2, hm2, pos, hl2]
          exact ⟨l ++ [mm % 9973], by simp, f1.1, f1.2⟩
        · simp [c_law_row_b1, lend, b1, b3, c0, c2, hm2, pos, hl2]
          exact ⟨l ++ [mm % 9973], by simp, f1.1, f1.2⟩
  · subst he
    refine ⟨l, ?_, by simpa using hl, hI⟩
    simp
end L
namespace L
open DG PySem PySem.Spec PyProof.Rows L2
/-- a letter by a number -/
theorem abc_at (i : Int) (h0 : 0 ≤ i) (h1 : i < 26) : atI abc.cps.toList i = some (97 + i.toNat) := by
  refine atI_get h0 ?_
  rw [abc_list]
  have : i.toNat < 26 := by omega
  generalize i.toNat = n at this
  have : ∀ n < 26, ([97, 98, 99, 100, 101, 102, 103, 104, 105, 106, 107, 108, 109, 110, 111, 112, 113, 114, 115, 116, 117, 118, 119, 120, 121, 122] : List Nat)[n]? = some (97 + n) := by decide
  exact this n ‹_›
theorem abc_line : abc.length ≤ sizeLine := line_ge (by decide +kernel)
theorem one_def (c : Nat) : (⟨#[c]⟩ : Str) = one c := rfl
theorem abc_def : Str.ofString "abcdefghijklmnopqrstuvwxyz" = abc := rfl
theorem signs_ok (n w : Int) : ∃ c, F_law_signs [.int n, .int w] = .ok (.str (one c)) ∧ low c = true := by
  have e : Str.ofString "abcdefghijklmnopqrstuvwxyz" = abc := rfl
  by_cases h : n % 5 = 0
  · have a := abc_at (n / 5 % 26) (by omega) (by omega)
    exact ⟨97 + (n / 5 % 26).toNat, by simp [F_law_signs, fnRun, c_law_signs, lend, h, abc_def, abc_line, a, one_def], by unfold low; simp; omega⟩
  · have a := abc_at ((n / 5 % 4 + w) % 26) (by omega) (by omega)
    exact ⟨97 + ((n / 5 % 4 + w) % 26).toNat, by simp [F_law_signs, fnRun, c_law_signs, lend, h, abc_def, abc_line, a, one_def], by unfold low; simp; omega⟩
end L
namespace L
open DG PySem PySem.Spec PyProof.Rows L2 TL
theorem joinL_one : ∀ l : List Nat, joinL [] (l.map fun c => [c]) = l
  | [] => rfl
  | [c] => rfl
  | c :: d :: l => by
    show [c] ++ ([] ++ joinL [] ((d :: l).map fun c => [c])) = _
    rw [joinL_one (d :: l)]
    rfl
theorem join_one (l : List Nat) : Txt.join (Str.ofString "") (l.map one) = ⟨l.toArray⟩ := by
  have h : tl (Txt.join (Str.ofString "") (l.map one)) = l := by
    rw [join_eq, tl_join, List.map_map]
    have : (tl ∘ one) = fun c => [c] := rfl
    rw [this]
    exact joinL_one l
  generalize Txt.join (Str.ofString "") (l.map one) = z at h
  cases z with
  | mk c =>
    have h : c.toList = l := h
    rw [← h]
theorem sumlen (l : List Nat) : ((l.map one).map (·.length)).sum = l.length := by
  induction l with
  | nil => rfl
  | cons c l ih => rw [List.map_cons, List.map_cons, List.sum_cons, ih, List.length_cons]; show 1 + _ = _; omega
theorem join_run (l : List Nat) (h : l.length ≤ 1000) (f : Fl) : joinD (.str (Str.ofString "")) [.lst f ((l.map one).map .str)] = some (.sc (.str ⟨l.toArray⟩)) := by
  rw [joinD_lst, strsD_str, Option.bind_some, sumlen, join_one, if_pos]
  have : (Str.ofString "").length = 0 := rfl
  rw [this]
  unfold bigT
  omega
/-- what stands in a row, by the columns' tops -/
def rowShape (tops : List Int) (k : Int) (l : List Nat) : Prop := ∀ j c, l[j]? = some c → if tops.getD j 0 ≤ k then low c = true else c = 46
theorem rowShape_snoc {tops : List Int} {k t : Int} {l : List Nat} {q c : Nat} (h : rowShape tops k l) (hl : l.length = q) (ht : tops[q]? = some t) (hc : if t ≤ k then low c = true else c = 46) : rowShape tops k (l ++ [c]) := fun j c' hj => by
  rw [List.getElem?_append] at hj
  split at hj
  · exact h j c' hj
  · rename_i hn
    have hj0 : j - l.length = 0 := by
      have := (List.getElem?_eq_some_iff.mp hj).1
      simp at this; exact this
    rw [hj0] at hj
    simp at hj
    subst hj
    have : j = q := by omega
    subst this
    rw [List.getD_eq_getElem?_getD, ht]; exact hc
theorem drawn_in (r : List Int) (hr : 40 ≤ r.length) (tops : List Int) (w h k : Nat) (hw : w ≤ 40) (hk : k ≤ 40) (ht : tops.length = w) (rows : D) (f g : Fl) (z7 z8 : Option D) (ok : Fw → DG.Env → Prop) (ex : Str → List (Str × D) → DG.Env → Prop)
    (hn : ∀ (l : List Nat) (z7 z8 : Option D), l.length = w → rowShape tops k l → ok .next [some (.lst f (r.map .int)), some (.int w), some (.int h), some rows, some (.lst g (tops.map .int)), some (.int k), some (.lst .own ((l.map one).map .str)), z7, z8]) :
    Wp (loopM (putE false 7) (sem { fs := [(2, F_law_signs)] } c_law_drawn_b1).S (rng 0 w) [some (.lst f (r.map .int)), some (.int w), some (.int h), some rows, some (.lst g (tops.map .int)), some (.int k), some (.lst .own []), z7, z8]) ok ex := by
  refine wp_loop (xs := List.range w) (emb := fun i : Nat => .int (0 + i)) (fun i e => ∃ (l : List Nat) (z7 z8 : Option D), e = [some (.lst f (r.map .int)), some (.int w), some (.int h), some rows, some (.lst g (tops.map .int)), some (.int k), some (.lst .own ((l.map one).map .str)), z7, z8] ∧ l.length = i ∧ rowShape tops k l) ⟨[], _, _, rfl, rfl, fun j c hj => by simp at hj⟩ (fun i q e hq ⟨l, z7, z8, he, hl, hI⟩ => ?_) fun e ⟨l, z7, z8, he, hl, hI⟩ => ?_
  · subst he
    obtain ⟨rfl, hi⟩ := range_get hq
    refine ⟨_, rfl, ?_⟩
    obtain ⟨x, hx, _⟩ := atI_some (xs := r) (i := 2 + ((q : Int) + 5 * k) % 38) (by omega) (by omega)
    obtain ⟨x1, hx1, _⟩ := atI_some (xs := r) (i := 1) (by omega) (by omega)
    obtain ⟨t, hT⟩ : ∃ t, tops[q]? = some t := ⟨_, List.getElem?_eq_getElem (by omega)⟩
    have hT2 : atI tops (q : Int) = some t := atI_nat hT
    have hl2 : l.length < sizeLine := line_gt (by omega)
    obtain ⟨c, hc, hlow⟩ := signs_ok (x / (7 + (k : Int) % 3) + k + q) (x1 % 26)
    have d1 : 0 < 7 + (k : Int) % 3 ∧ 7 + (k : Int) % 3 < 1073741824 := by omega
    have two : 2 ≤ sizeLine := line_ge (by omega)
    simp [c_law_drawn_b1, lend, atI_map, hx, hx1, hT2, hc, d1, hl2, two]
    by_cases htk : t ≤ k
    · simp [htk, hl2]
      exact ⟨l ++ [c], by simp, by simp [hl], rowShape_snoc hI hl hT (by rw [if_pos htk]; exact hlow)⟩
    · simp [htk, hl2]
      exact ⟨l ++ [46], by simp [← air_one]; rfl, by simp [hl], rowShape_snoc hI hl hT (by rw [if_neg htk])⟩
  · subst he
    rw [List.length_range] at hl
    exact hn l z7 z8 hl hI
end L
namespace L
open DG PySem PySem.Spec PyProof.Rows L2
/-- a drawn cut: rows of one width, letters beneath the tops -/
structure Cut (rows : List Str) : Prop where
  ex : ∃ (tops : List Int) (j0 : Nat), 1 ≤ tops.length ∧ tops.length ≤ 40 ∧ tops[j0]? = some 0 ∧ 1 ≤ rows.length ∧ rows.length ≤ 40 ∧ ∀ (k : Nat) (x : Str), rows[k]? = some x → x.length = tops.length ∧ rowShape tops k x.cps.toList
theorem drawn_out (r : List Int) (hr : 40 ≤ r.length) (tops : List Int) (w h : Nat) (hw : w ≤ 40) (hh : h ≤ 40) (ht : tops.length = w) (f g : Fl) (z5 z6 z7 z8 : Option D) (ok : Fw → DG.Env → Prop) (ex : Str → List (Str × D) → DG.Env → Prop)
    (hn : ∀ (rows : List Str) (z5 z6 z7 z8 : Option D), rows.length = h → (∀ (k : Nat) (x : Str), rows[k]? = some x → x.length = w ∧ rowShape tops k x.cps.toList) → ok .next [some (.lst f (r.map .int)), some (.int w), some (.int h), some (.lst .own (rows.map .str)), some (.lst g (tops.map .int)), z5, z6, z7, z8]) :
    Wp (loopM (putE false 5) (sem { fs := [(2, F_law_signs)] } c_law_drawn_b2).S (rng 0 h) [some (.lst f (r.map .int)), some (.int w), some (.int h), some (.lst .own []), some (.lst g (tops.map .int)), z5, z6, z7, z8]) ok ex := by
  refine wp_loop (xs := List.range h) (emb := fun i : Nat => .int (0 + i)) (fun i e => ∃ (rows : List Str) (z5 z6 z7 z8 : Option D), e = [some (.lst f (r.map .int)), some (.int w), some (.int h), some (.lst .own (rows.map .str)), some (.lst g (tops.map .int)), z5, z6, z7, z8] ∧ rows.length = i ∧ ∀ (k : Nat) (x : Str), rows[k]? = some x → x.length = w ∧ rowShape tops k x.cps.toList) ⟨[], _, _, _, _, rfl, rfl, fun k x hx => by simp at hx⟩ (fun i q e hq ⟨rows, z5, z6, z7, z8, he, hl, hI⟩ => ?_) fun e ⟨rows, z5, z6, z7, z8, he, hl, hI⟩ => ?_
  · subst he
    obtain ⟨rfl, hi⟩ := range_get hq
    refine ⟨_, rfl, ?_⟩
    have hk : rngOk w := by unfold rngOk; omega
    have hl2 : rows.length < sizeLine := line_gt (by omega)
    simp [c_law_drawn_b2, hk]
    refine wp_sq (drawn_in r hr tops w h q hw (by omega) ht _ f g _ _ _ _ fun l z7 z8 hll hls => ?_)
    have hj := join_run l (by omega) .ro
    rw [List.map_map] at hj
    have hj2 : metD 0 (.str (Str.ofString "")) [.lst .ro (l.map (D.str ∘ one))] = _ := hj
    simp [lend, hj, hj2, hl2]
    refine ⟨rows ++ [⟨l.toArray⟩], by simp, by simp [hl], fun k x hx => ?_⟩
    rw [List.getElem?_append] at hx
    split at hx
    · exact hI k x hx
    · rename_i hn
      have hk0 : k - rows.length = 0 := by
        have := (List.getElem?_eq_some_iff.mp hx).1
        simp at this; exact this
      rw [hk0] at hx
      simp at hx
      subst hx
      have : k = q := by omega
      subst this
      exact ⟨by show l.toArray.size = w; simpa using hll, hls⟩
  · subst he
    rw [List.length_range] at hl
    exact hn rows z5 z6 z7 z8 hl hI
def topAt (r : List Int) (h : Nat) (k : Nat) : Int := if ((atI r (2 + (k : Int) % 38)).getD 0) % ((h : Int) + 3) - 2 > 0 then ((atI r (2 + (k : Int) % 38)).getD 0) % ((h : Int) + 3) - 2 else 0
theorem drawn_tail (r : List Int) (hr : 40 ≤ r.length) (x0 : Int) (hx0 : atI r 0 = some x0) (w h : Nat) (w1 : 1 ≤ w) (w2 : w ≤ 40) (h1 : 1 ≤ h) (h2 : h ≤ 40) (f : Fl) :
    Wp (((lcK [5] (putE false 5) (M.ret true) (sem { fs := [(2, F_law_signs)] } (CE.blt 3 ((CE.cI 0).cons ((CE.bin Operator.Sub (CE.bin Operator.Mod ((CE.np 0).sub (CE.bin Operator.Add (CE.cI 2) (CE.bin Operator.Mod (CE.nm 5) (CE.cI 38)))) (CE.bin Operator.Add (CE.np 2) (CE.cI 3))) (CE.cI 2)).cons CE.nil)))).V
        (rng 0 w) [some (D.lst f (List.map D.int r)), some (D.int w), some (D.int h), some (D.lst Fl.own []), none, none, none, none, none]).bnd (setK false 4)).sq
      (sem { fs := [(2, F_law_signs)] } (((CE.cI 0).sto (CE.np 4) (CE.bin Operator.Mod (CE.bin Operator.FloorDiv ((CE.np 0).sub (CE.cI 0)) (CE.cI 216)) (CE.np 1))).sq (((CE.tgn 5).fr (CE.np 2).rng1 c_law_drawn_b2).sq (CE.np 3).ret))).S)
    (fun fl e => ∃ rows, fnRes (Res.ok fl e) = FRes.ok (D.lst Fl.own (List.map D.str rows)) ∧ Cut rows) fun c fs e =>
    ∃ rows, (if allFS noRo fs = true then FRes.exc c fs else FRes.bad) = FRes.ok (D.lst Fl.own (List.map D.str rows)) ∧ Cut rows := by
  have hlc : lcK [5] (putE false 5) (M.ret true) (sem { fs := [(2, F_law_signs)] } (CE.blt 3 ((CE.cI 0).cons ((CE.bin Operator.Sub (CE.bin Operator.Mod ((CE.np 0).sub (CE.bin Operator.Add (CE.cI 2) (CE.bin Operator.Mod (CE.nm 5) (CE.cI 38)))) (CE.bin Operator.Add (CE.np 2) (CE.cI 3))) (CE.cI 2)).cons CE.nil)))).V
        (rng 0 w) [some (D.lst f (List.map D.int r)), some (D.int w), some (D.int h), some (D.lst Fl.own []), none, none, none, none, none] = .ok (.lst .own ((List.range w).map fun k => .int (topAt r h k))) [some (D.lst f (List.map D.int r)), some (D.int w), some (D.int h), some (D.lst Fl.own []), none, none, none, none, none] := by
    refine lcK_map (fun i : Nat => .int (0 + i)) (fun k => .int (topAt r h k)) (List.range w) (line_ge (by rw [List.length_range]; omega)) fun k hk => ?_
    obtain ⟨x, hx, _⟩ := atI_some (xs := r) (i := 2 + (k : Int) % 38) (by omega) (by omega)
    refine ⟨_, rfl, [some (D.lst f (List.map D.int r)), some (D.int w), some (D.int h), some (D.lst Fl.own []), none, some (.int (0 + k)), none, none, none], ?_, rfl⟩
    have pos : 0 < (h : Int) + 3 := by omega
    simp [lend, atI_map, hx, pos, topAt]
  have hk : rngOk h := by unfold rngOk; omega
  have hix : ixN w (x0 / 216 % (w : Int)) = some (x0 / 216 % (w : Int)).toNat := by
    have a1 : 0 ≤ x0 / 216 % (w : Int) := Int.emod_nonneg _ (by omega)
    have a2 : x0 / 216 % (w : Int) < w := Int.emod_lt_of_pos _ (by omega)
    unfold ixN
    rw [if_pos a1, if_pos a2]
  have hix2 : ixN ((List.range w).map fun k => D.int (topAt r h k)).length (x0 / 216 % (w : Int)) = some (x0 / 216 % (w : Int)).toNat := by rw [List.length_map, List.length_range]; exact hix
  have wpos : 0 < w := by omega
  have hlt : (x0 / 216 % (w : Int)).toNat < w := by
    have a1 : 0 ≤ x0 / 216 % (w : Int) := Int.emod_nonneg _ (by omega)
    have a2 : x0 / 216 % (w : Int) < w := Int.emod_lt_of_pos _ (by omega)
    omega
  obtain ⟨tops, ht, ht0, hts⟩ : ∃ tops : List Int, tops.length = w ∧ tops[(x0 / 216 % (w : Int)).toNat]? = some 0 ∧ ((List.range w).map fun k => D.int (topAt r h k)).set (x0 / 216 % (w : Int)).toNat (D.int 0) = tops.map D.int :=
    ⟨((List.range w).map (topAt r h)).set (x0 / 216 % (w : Int)).toNat 0, by simp, by simp [hlt], by rw [List.map_set, List.map_map]; rfl⟩
  simp [hlc, lend, atI_map, hx0, hix, wpos, hk]
  rw [hts]
  refine wp_sq (drawn_out r hr tops w h w2 h2 ht f .own _ _ _ _ _ _ fun rows z5 z6 z7 z8 hl hI => ?_)
  simp
  refine ⟨rows, rfl, ⟨tops, (x0 / 216 % (w : Int)).toNat, by omega, by omega, ht0, by omega, by omega, fun k x hx => ?_⟩⟩
  obtain ⟨a, b⟩ := hI k x hx
  exact ⟨by omega, b⟩
theorem drawn_ok (r : List Int) (hr : 40 ≤ r.length) (hb : ∀ x ∈ r, 0 ≤ x ∧ x < 9973) (f : Fl) : ∃ rows : List Str, F_law_drawn [.lst f (r.map .int)] = .ok (.lst .own (rows.map .str)) ∧ Cut rows := by
  obtain ⟨x0, hx0, m0⟩ := atI_some (xs := r) (i := 0) (by omega) (by omega)
  obtain ⟨x1, hx1, m1⟩ := atI_some (xs := r) (i := 1) (by omega) (by omega)
  have b0 := hb x0 m0
  have b1 := hb x1 m1
  refine fn_run (F := F_law_drawn) (fun o => ∃ rows : List Str, o = .ok (.lst .own (rows.map .str)) ∧ Cut rows) rfl (by simp) ?_
  simp [c_law_drawn, lend, atI_map, hx0, hx1]
  by_cases hc : x0 / 36 % 6 = 1
  · rw [if_pos hc]
    obtain ⟨w, hw⟩ : ∃ w : Nat, 1 + x1 % 40 = w := ⟨(1 + x1 % 40).toNat, by omega⟩
    obtain ⟨h, hh⟩ : ∃ h : Nat, 1 + x1 / 40 % 40 = h := ⟨(1 + x1 / 40 % 40).toNat, by omega⟩
    rw [hw, hh, if_pos (by unfold rngOk; omega)]
    exact drawn_tail r hr x0 hx0 w h (by omega) (by omega) (by omega) (by omega) f
  · rw [if_neg hc]
    obtain ⟨w, hw⟩ : ∃ w : Nat, 1 + x0 % 6 = w := ⟨(1 + x0 % 6).toNat, by omega⟩
    obtain ⟨h, hh⟩ : ∃ h : Nat, 1 + x0 / 6 % 6 = h := ⟨(1 + x0 / 6 % 6).toNat, by omega⟩
    rw [hw, hh, if_pos (by unfold rngOk; omega)]
    exact drawn_tail r hr x0 hx0 w h (by omega) (by omega) (by omega) (by omega) f
end L
namespace L
open DG PySem PySem.Spec PyProof.Rows L2 TL
theorem low_ne {c : Nat} (h : low c = true) : c ≠ 46 := by unfold low at h; simp at h; omega
theorem low_nl {c : Nat} (h : low c = true) : c ≠ 10 := by unfold low at h; simp at h; omega
/-- a good cut: what rows_of tells as it is -/
structure Good (rows : List Str) : Prop where
  ne : rows ≠ []
  few : rows.length ≤ 40
  ok : ∀ (i : Nat) (x : Str), rows[i]? = some x → rowOk x (nth rows 0).length = true
  nh : ∀ i, 0 < i → i < rows.length → hole (nth rows (i - 1)) (nth rows i) = false
  la : allAir (nth rows (rows.length - 1)) = false
theorem rowOk_of {x : Str} {w : Int} (h : rowOk x w = true) : 1 ≤ x.length ∧ x.length ≤ 40 ∧ (x.length : Int) = w ∧ ∀ c ∈ x.cps.toList, okSign c = true := by
  unfold rowOk at h
  simp only [Bool.and_eq_true, decide_eq_true_eq, List.all_eq_true] at h
  exact ⟨h.1.1.1, h.1.1.2, h.1.2, h.2⟩
theorem okSign_nl {c : Nat} (h : okSign c = true) : c ≠ 10 := by
  unfold okSign at h
  rw [Bool.or_eq_true] at h
  rcases h with h | h
  · exact low_nl h
  · have := of_decide_eq_true h; omega
theorem Cut.good {rows : List Str} (C : Cut rows) : Good rows := by
  obtain ⟨tops, j0, t1, t2, t0, r1, r2, h⟩ := C.ex
  have at0 : ∀ i, i < rows.length → rows[i]? = some (nth rows i) := fun i hi => by rw [List.getElem?_eq_getElem hi, nth_get (List.getElem?_eq_getElem hi)]
  have sign : ∀ (k : Nat) (l : List Nat), rowShape tops k l → ∀ c ∈ l, okSign c = true := fun k l hs c hc => by
    obtain ⟨j, hj⟩ := List.getElem?_of_mem hc
    have := hs j c hj
    unfold okSign
    split at this
    · rw [this]; rfl
    · subst this; rfl
  refine ⟨fun z => by rw [z] at r1; simp at r1, r2, fun i x hx => ?_, fun i h0 hi => ?_, ?_⟩
  · obtain ⟨a, b⟩ := h i x hx
    have n0 := (h 0 _ (at0 0 (by omega))).1
    unfold rowOk
    simp only [Bool.and_eq_true, decide_eq_true_eq, List.all_eq_true]
    exact ⟨⟨by omega, by omega⟩, sign i _ b⟩
  · obtain ⟨a1, b1⟩ := h (i - 1) _ (at0 (i - 1) (by omega))
    obtain ⟨a2, b2⟩ := h i _ (at0 i hi)
    unfold hole
    rw [List.any_eq_false]
    intro q hq
    obtain ⟨j, hj⟩ := List.getElem?_of_mem hq
    rw [List.getElem?_zip_eq_some] at hj
    have s1 := b1 j q.1 hj.1
    have s2 := b2 j q.2 hj.2
    unfold holeAt
    by_cases ht : tops.getD j 0 ≤ ((i - 1 : Nat) : Int)
    · rw [if_pos (by omega)] at s2
      have := low_ne s2
      simp [this]
    · rw [if_neg ht] at s1
      simp [s1]
  · obtain ⟨a, b⟩ := h (rows.length - 1) _ (at0 (rows.length - 1) (by omega))
    have hj : j0 < tops.length := (List.getElem?_eq_some_iff.mp t0).1
    have hl : j0 < (nth rows (rows.length - 1)).cps.toList.length := by
      have : (nth rows (rows.length - 1)).cps.toList.length = (nth rows (rows.length - 1)).length := rfl
      omega
    have s := b j0 _ (List.getElem?_eq_getElem hl)
    rw [List.getD_eq_getElem?_getD, t0] at s
    simp at s
    unfold allAir
    rw [List.all_eq_false]
    exact ⟨_, List.getElem_mem hl, by simp; exact low_ne (by simpa using s)⟩
theorem Good.told {rows : List Str} (G : Good rows) : rowsOf rows = .ok (.lst .own (rows.map .str)) := by
  unfold rowsOf
  have : (List.range rows.length).find? (cutBad rows) = none := by
    rw [List.find?_eq_none]
    intro i hi
    have hi := List.mem_range.mp hi
    have hx : rows[i]? = some (nth rows i) := by rw [List.getElem?_eq_getElem hi, nth_get (List.getElem?_eq_getElem hi)]
    have o := G.ok i _ hx
    have f := G.few
    unfold cutBad
    rw [o]
    by_cases h0 : 0 < i
    · rw [G.nh i h0 hi]; simp; omega
    · simp [h0]; omega
  rw [this, G.la]; rfl
theorem joinlen (l : List Str) (h : ∀ x ∈ l, x.length ≤ 40) : (l.map (·.length)).sum ≤ 40 * l.length := by
  induction l with
  | nil => simp
  | cons x l ih =>
    rw [List.map_cons, List.sum_cons, List.length_cons]
    have a := h x List.mem_cons_self
    have b := ih fun y hy => h y (List.mem_cons_of_mem _ hy)
    omega
theorem Good.len {rows : List Str} (G : Good rows) : ∀ x ∈ rows, 1 ≤ x.length ∧ x.length ≤ 40 ∧ ∀ c ∈ x.cps.toList, okSign c = true := fun x hx => by
  obtain ⟨i, hi⟩ := List.getElem?_of_mem hx
  obtain ⟨a, b, _, d⟩ := rowOk_of (G.ok i x hi)
  exact ⟨a, b, d⟩
/-- the text of a cut -/
def cutText (rows : List Str) : Str := Txt.join nlS rows
theorem Good.split {rows : List Str} (G : Good rows) : Txt.split (cutText rows) nlS = rows := by
  refine split_join (s := 10) (S := []) rfl (by decide +kernel) G.ne fun x hx hc => ?_
  exact okSign_nl ((G.len x hx).2.2 10 hc) rfl
end L
namespace L
open DG PySem PySem.Spec PyProof.Rows L2 TL
theorem joinL_len (S : List Nat) : ∀ l : List (List Nat), (joinL S l).length ≤ (l.map List.length).sum + l.length * S.length
  | [] => by simp [joinL]
  | [x] => by simp [joinL]
  | x :: y :: l => by
    have := joinL_len S (y :: l)
    show (x ++ (S ++ joinL S (y :: l))).length ≤ _
    rw [List.length_append, List.length_append, List.map_cons, List.sum_cons, List.length_cons (a := x)]
    have e : ((y :: l).length + 1) * S.length = (y :: l).length * S.length + S.length := Nat.succ_mul _ _
    omega
theorem Txt_join_len (y : Str) (l : List Str) : (Txt.join y l).length ≤ (l.map (·.length)).sum + l.length * y.length := by
  have h : tl (Txt.join y l) = joinL (tl y) (l.map tl) := by rw [join_eq, tl_join]
  have h2 := joinL_len (tl y) (l.map tl)
  rw [← h, List.length_map, List.map_map] at h2
  have e : (Txt.join y l).length = (tl (Txt.join y l)).length := (Array.length_toList).symm
  rw [e]
  exact h2
theorem Good.sum {rows : List Str} (G : Good rows) : (rows.map (·.length)).sum + rows.length * nlS.length ≤ 2000 := by
  have a := joinlen rows fun x hx => (G.len x hx).2.1
  have b := G.few
  have c : nlS.length = 1 := rfl
  rw [c]; omega
theorem Good.textlen {rows : List Str} (G : Good rows) : (cutText rows).length ≤ 2000 := Nat.le_trans (Txt_join_len _ _) G.sum
theorem Good.joined {rows : List Str} (G : Good rows) (f : Fl) : metD 0 (.str nlS) [.lst f (rows.map .str)] = some (.sc (.str (cutText rows))) := by
  rw [metD_0, joinD_lst, strsD_str, Option.bind_some, if_pos]
  · rfl
  · exact Nat.le_trans G.sum (by unfold bigT; omega)
theorem Good.rows_of {rows : List Str} (G : Good rows) : F_rows_of [.str (cutText rows)] = .ok (.lst .own (rows.map .str)) := by
  rw [rows_of_ok _ (line_ge (by have := G.textlen; omega)) rows G.split G.ne (fun r hr => line_ge (by have := (G.len r hr).2.1; omega)), G.told]
end L
namespace L
open DG PySem PySem.Spec PyProof.Rows L2 TL
theorem okSign_lt {c : Nat} (h : okSign c = true) : c < 0x110000 := by
  unfold okSign low at h
  simp at h
  omega
theorem Good.strOk {rows : List Str} (G : Good rows) : rows.all PyData.strOk = true := by
  rw [List.all_eq_true]
  intro x hx
  unfold PyData.strOk
  rw [Array.all_eq_true']
  intro c hc
  exact decide_eq_true (okSign_lt ((G.len x hx).2.2 c (Array.mem_toList_iff.mpr hc)))
def goodB (rows : List Str) : Bool := decide (1 ≤ rows.length) && decide (rows.length ≤ 40) && ((List.range rows.length).all fun i => !cutBad rows i) && !allAir (nth rows (rows.length - 1))
theorem Good.of {rows : List Str} (h : goodB rows = true) : Good rows := by
  unfold goodB at h
  simp only [Bool.and_eq_true, decide_eq_true_eq, List.all_eq_true, Bool.not_eq_true', List.mem_range] at h
  obtain ⟨⟨⟨h1, h2⟩, h3⟩, h4⟩ := h
  refine ⟨fun z => by rw [z] at h1; simp at h1, h2, fun i x hx => ?_, fun i h0 hi => ?_, h4⟩
  · have := h3 i (List.getElem?_eq_some_iff.mp hx).1
    unfold cutBad at this
    rw [nth_get hx] at this
    simp only [Bool.or_eq_false_iff, Bool.not_eq_false'] at this
    exact this.1.2
  · have := h3 i hi
    unfold cutBad at this
    simp only [Bool.or_eq_false_iff, Bool.not_eq_false', Bool.and_eq_false_iff, decide_eq_false_iff_not] at this
    exact this.2.resolve_left (fun z => z h0)
end L

set_option Elab.async false
set_option linter.all false
set_option maxRecDepth 100000
namespace L
open DG PySem PySem.Spec PyProof.Rows L2
set_option autoImplicit false
def cf_wider : Cf := { N := ["text", "times", "rows", "row", "sign"], nl := [0, 1, 2], fn := ["rows_of"], cs := [("MOST", .cI (40))], bl := ["len"], exo := [("NoCut", ["row"])] }
def c_wider : CE := (.sq (.set 2 (.call 0 (.cons (.np 0) .nil))) (.sq (.ite (.cmp .Gt (.bin .Mult (.blt 0 (.cons (.sub (.np 2) (.cI (0))) .nil)) (.np 1)) (.cI (40))) (.rai "NoCut" ["row"] (.cons (.cI (0)) .nil)) .nx) (.ret (.met 0 (.cT ⟨#[10]⟩) (.lc [3] (.tgn 3) (.np 2) .yes (.met 0 (.cT "") (.lc [4] (.tgn 4) (.nm 3) .yes (.bin .Mult (.nm 4) (.np 1)))))))))
def F_wider : List D → FRes := fnRun 5 (sem { fs := [(1, F_rows_of)] } c_wider).S
def cf_turned : Cf := { N := ["text", "row"], nl := [0], fn := ["rows_of"] }
def c_turned : CE := (.ret (.met 0 (.cT ⟨#[10]⟩) (.lc [1] (.tgn 1) (.call 0 (.cons (.np 0) .nil)) .yes (.stp (-1) (.nm 1)))))
def F_turned : List D → FRes := fnRun 2 (sem { fs := [(1, F_rows_of)] } c_turned).S
def cf_letters : Cf := { N := ["text", "found", "row", "sign"], nl := [0, 1, 2], fn := ["rows_of"], cs := [("AIR", .cT ".")], bl := ["sorted"] }
def c_letters_b1 : CE := (.sto (.cB true) (.np 1) (.np 3))
def c_letters_b2 : CE := (.fr (.tgn 3) (.np 2) c_letters_b1)
def c_letters : CE := (.sq (.set 1 .dnew) (.sq (.fr (.tgn 2) (.call 0 (.cons (.np 0) .nil)) c_letters_b2) (.ret (.blt 10 (.cons (.lc [3] (.tgn 3) (.np 1) (.cmp .NotEq (.nm 3) (.cT ".")) (.nm 3)) .nil)))))
def F_letters : List D → FRes := fnRun 4 (sem { fs := [(1, F_rows_of)] } c_letters).S
def cf_meetings : Cf := { N := ["text", "rows", "found", "above", "row", "upper", "lower"], nl := [0, 1, 2, 3, 4, 5, 6], fn := ["rows_of"], cs := [("AIR", .cT ".")], bl := ["zip", "sorted"], dts := [2] }
def c_meetings_b1 : CE := (.ite (.an (.cmp .NotEq (.np 5) (.cT ".")) (.cmp .NotEq (.np 5) (.np 6))) (.sto (.cB true) (.np 2) (.tup (.cons (.np 5) (.cons (.np 6) .nil)))) .nx)
def c_meetings_b2 : CE := (.fr (.tgt (.cons (.tgn 5) (.cons (.tgn 6) .nil))) (.zp (.np 3) (.np 4)) c_meetings_b1)
def c_meetings : CE := (.sq (.set 1 (.call 0 (.cons (.np 0) .nil))) (.sq (.set 2 .dnwt) (.sq (.fr (.tgt (.cons (.tgn 3) (.cons (.tgn 4) .nil))) (.zp (.np 1) (.sli (.np 1) (.os (.cI (1))) .on)) c_meetings_b2) (.ret (.blt 10 (.cons (.np 2) .nil))))))
def F_meetings : List D → FRes := fnRun 7 (sem { fs := [(1, F_rows_of)] } c_meetings).S
def cf_law_refused : Cf := { N := ["_law_call_text", "_law_times", "_law_error", "e"], nl := [0, 1, 2, 3], fn := ["rows_of", "wider"], bl := ["isinstance", "bool", "ValueError", "int"], cl := ["NoGround", "Torn", "NoSaying", "NoDeed", "NoRow", "NoLayer", "NoCut"], ext := [("DigError", [("NoCut", true), ("NoGround", true), ("Torn", true), ("NoSaying", true), ("NoDeed", true), ("NoRow", true), ("NoLayer", true)])] }
def c_law_refused_b1 : CE := (.ite (.cmp .Eq (.np 1) (.cI (0))) (.ex (.call 0 (.cons (.np 0) .nil))) (.ex (.call 1 (.cons (.np 0) (.cons (.np 1) .nil)))))
def c_law_refused : CE := (.sq (.set 2 .cN) (.sq (.tryk [("NoCut", true), ("NoGround", true), ("Torn", true), ("NoSaying", true), ("NoDeed", true), ("NoRow", true), ("NoLayer", true)] 3 c_law_refused_b1 (.set 2 (.np 3))) (.sq (.ite (.ro (.nt (.isi (.cons (.np 2) (.cons (.fnv "NoCut") .nil)))) (.nt (.isi (.cons (.np 2) (.cons (.ty "ValueError") .nil))))) (.ret .cN) .nx) (.sq (.ite (.isi (.cons (.np 2) (.cons (.tup (.cons (.fnv "NoGround") (.cons (.fnv "Torn") (.cons (.fnv "NoSaying") (.cons (.fnv "NoDeed") (.cons (.fnv "NoRow") (.cons (.fnv "NoLayer") .nil))))))) .nil))) (.ret .cN) .nx) (.sq (.ite (.ro (.nt (.isi (.cons (.fld "row" (.np 2)) (.cons (.ty "int") .nil)))) (.isi (.cons (.fld "row" (.np 2)) (.cons (.ty "bool") .nil)))) (.ret .cN) .nx) (.ret (.fld "row" (.np 2))))))))
def tb_law_refused : Tab := [((.inl "NoCut", .inl "NoGround"), false), ((.inl "NoCut", .inl "Torn"), false), ((.inl "NoCut", .inl "NoSaying"), false), ((.inl "NoCut", .inl "NoDeed"), false), ((.inl "NoCut", .inl "NoRow"), false), ((.inl "NoCut", .inl "NoLayer"), false), ((.inl "NoCut", .inr "bool"), false), ((.inl "NoCut", .inl "NoCut"), true), ((.inl "NoCut", .inr "ValueError"), true), ((.inl "NoCut", .inr "int"), false), ((.inl "NoGround", .inl "NoGround"), true), ((.inl "NoGround", .inl "Torn"), false), ((.inl "NoGround", .inl "NoSaying"), false), ((.inl "NoGround", .inl "NoDeed"), false), ((.inl "NoGround", .inl "NoRow"), false), ((.inl "NoGround", .inl "NoLayer"), false), ((.inl "NoGround", .inr "bool"), false), ((.inl "NoGround", .inl "NoCut"), false), ((.inl "NoGround", .inr "ValueError"), true), ((.inl "NoGround", .inr "int"), false), ((.inl "Torn", .inl "NoGround"), false), ((.inl "Torn", .inl "Torn"), true), ((.inl "Torn", .inl "NoSaying"), false), ((.inl "Torn", .inl "NoDeed"), false), ((.inl "Torn", .inl "NoRow"), false), ((.inl "Torn", .inl "NoLayer"), false), ((.inl "Torn", .inr "bool"), false), ((.inl "Torn", .inl "NoCut"), false), ((.inl "Torn", .inr "ValueError"), true), ((.inl "Torn", .inr "int"), false), ((.inl "NoSaying", .inl "NoGround"), false), ((.inl "NoSaying", .inl "Torn"), false), ((.inl "NoSaying", .inl "NoSaying"), true), ((.inl "NoSaying", .inl "NoDeed"), false), ((.inl "NoSaying", .inl "NoRow"), false), ((.inl "NoSaying", .inl "NoLayer"), false), ((.inl "NoSaying", .inr "bool"), false), ((.inl "NoSaying", .inl "NoCut"), false), ((.inl "NoSaying", .inr "ValueError"), true), ((.inl "NoSaying", .inr "int"), false), ((.inl "NoDeed", .inl "NoGround"), false), ((.inl "NoDeed", .inl "Torn"), false), ((.inl "NoDeed", .inl "NoSaying"), false), ((.inl "NoDeed", .inl "NoDeed"), true), ((.inl "NoDeed", .inl "NoRow"), false), ((.inl "NoDeed", .inl "NoLayer"), false), ((.inl "NoDeed", .inr "bool"), false), ((.inl "NoDeed", .inl "NoCut"), false), ((.inl "NoDeed", .inr "ValueError"), true), ((.inl "NoDeed", .inr "int"), false), ((.inl "NoRow", .inl "NoGround"), false), ((.inl "NoRow", .inl "Torn"), false), ((.inl "NoRow", .inl "NoSaying"), false), ((.inl "NoRow", .inl "NoDeed"), false), ((.inl "NoRow", .inl "NoRow"), true), ((.inl "NoRow", .inl "NoLayer"), false), ((.inl "NoRow", .inr "bool"), false), ((.inl "NoRow", .inl "NoCut"), false), ((.inl "NoRow", .inr "ValueError"), true), ((.inl "NoRow", .inr "int"), false), ((.inl "NoLayer", .inl "NoGround"), false), ((.inl "NoLayer", .inl "Torn"), false), ((.inl "NoLayer", .inl "NoSaying"), false), ((.inl "NoLayer", .inl "NoDeed"), false), ((.inl "NoLayer", .inl "NoRow"), false), ((.inl "NoLayer", .inl "NoLayer"), true), ((.inl "NoLayer", .inr "bool"), false), ((.inl "NoLayer", .inl "NoCut"), false), ((.inl "NoLayer", .inr "ValueError"), true), ((.inl "NoLayer", .inr "int"), false), ((.inr "NoneType", .inl "NoGround"), false), ((.inr "NoneType", .inl "Torn"), false), ((.inr "NoneType", .inl "NoSaying"), false), ((.inr "NoneType", .inl "NoDeed"), false), ((.inr "NoneType", .inl "NoRow"), false), ((.inr "NoneType", .inl "NoLayer"), false), ((.inr "NoneType", .inl "NoCut"), false)]
def xc_law_refused : List Str := ["NoCut", "NoGround", "Torn", "NoSaying", "NoDeed", "NoRow", "NoLayer"]
def xt_law_refused : FTab := [("NoCut", ["row"]), ("NoGround", ["part", "number"]), ("Torn", ["ring"])]
def F_law_refused : List D → FRes := fnRun 4 (sem { fs := [(1, F_rows_of), (2, F_wider)], tb := tb_law_refused, xc := xc_law_refused, xt := xt_law_refused } c_law_refused).S
end L

set_option Elab.async false
set_option linter.all false
set_option maxRecDepth 100000
namespace L
open DG PySem PySem.Spec PyProof.Rows L2 TL
set_option autoImplicit false
/-! ### letters of a cut -/
def abcN : List Nat := [97, 98, 99, 100, 101, 102, 103, 104, 105, 106, 107, 108, 109, 110, 111, 112, 113, 114, 115, 116, 117, 118, 119, 120, 121, 122]
def codes (x : Str) : List Nat := x.cps.toList
theorem mem_abcN {c : Nat} : c ∈ abcN ↔ low c = true := by
  unfold low abcN
  simp only [List.mem_cons, List.not_mem_nil, or_false, decide_eq_true_eq]
  omega
theorem chars_codes (x : Str) : chars x = (codes x).map fun c => .str (one c) := rfl
theorem one_inj (a b : Nat) (h : one a = one b) : a = b := (one_eq a b).mp h
/-- the letters of some rows, in order -/
def letts (rows : List Str) : List Nat := abcN.filter fun c => rows.any fun r => decide (c ∈ codes r)
theorem mem_letts {rows : List Str} {c : Nat} : c ∈ letts rows ↔ low c = true ∧ ∃ r ∈ rows, c ∈ codes r := by
  unfold letts
  simp only [List.mem_filter, mem_abcN, List.any_eq_true, decide_eq_true_eq]
theorem abcN_pw : abcN.Pairwise (· < ·) := by unfold abcN; decide
theorem leA_one {a b : Nat} (h : a < b) : leA py1 (one a) (one b) = true := by
  have : ltA py1 (one b) (one a) = false := by
    rw [lt1]
    show decide ([b] < [a]) = false
    rw [decide_eq_false_iff_not]
    intro z
    rw [List.cons_lt_cons_iff] at z
    rcases z with z | z
    · omega
    · exact absurd z.1 (by omega)
  unfold leA
  unfold ltA at this
  rw [this]; rfl
theorem letts_pw (rows : List Str) : ((letts rows).map one).Pairwise (fun a b => leA py1 a b = true) := by
  rw [List.pairwise_map]
  exact ((abcN_pw.filter _).imp fun h => leA_one h)
theorem nodup_map_one {l : List Nat} (h : l.Nodup) : (l.map one).Nodup := (List.pairwise_map.mpr (List.Pairwise.imp (fun {a b} h z => h (one_inj a b z)) h))
theorem letts_nodup (rows : List Str) : (letts rows).Nodup := (abcN_pw.filter _).imp fun h => Nat.ne_of_lt h
def signsL (rows : List Str) : List Str := rows.flatMap fun r => (codes r).map one
theorem signs_len {rows : List Str} (G : ∀ r ∈ rows, ∀ c ∈ codes r, okSign c = true) : (dd (signsL rows)).length ≤ 27 := by
  refine Nat.le_trans (nodup_le (m := (46 :: abcN).map one) (dd_nodup _) fun x hx => ?_) (by decide)
  rw [mem_dd] at hx
  unfold signsL at hx
  obtain ⟨r, hr, hx⟩ := List.mem_flatMap.mp hx
  obtain ⟨c, hc, rfl⟩ := List.mem_map.mp hx
  refine List.mem_map.mpr ⟨c, ?_, rfl⟩
  have := G r hr c hc
  unfold okSign at this
  rw [Bool.or_eq_true, decide_eq_true_eq] at this
  rw [List.mem_cons, mem_abcN]
  exact this.symm
theorem letters_sorted {rows : List Str} (G : ∀ r ∈ rows, ∀ c ∈ codes r, okSign c = true) : sortA py1 ((dd (signsL rows)).filter fun x => !decide (x = air)) = (letts rows).map one := by
  refine se1.sort_eq (letts_pw rows) (nodup_perm ((dd_nodup _).filter _) (nodup_map_one (letts_nodup rows)) fun x => ?_)
  rw [List.mem_filter, mem_dd, List.mem_map]
  constructor
  · rintro ⟨h1, h2⟩
    unfold signsL at h1
    obtain ⟨r, hr, hx⟩ := List.mem_flatMap.mp h1
    obtain ⟨c, hc, rfl⟩ := List.mem_map.mp hx
    refine ⟨c, mem_letts.mpr ⟨?_, r, hr, hc⟩, rfl⟩
    have := G r hr c hc
    unfold okSign at this
    rw [Bool.or_eq_true, decide_eq_true_eq] at this
    rcases this with z | z
    · exact z
    · subst z; rw [← air_one] at h2; simp at h2
  · rintro ⟨c, hc, rfl⟩
    obtain ⟨hl, r, hr, hx⟩ := mem_letts.mp hc
    refine ⟨List.mem_flatMap.mpr ⟨r, hr, List.mem_map.mpr ⟨c, hx, rfl⟩⟩, ?_⟩
    rw [air_one]
    simp [one_eq, low_ne hl]
theorem codes_ok {rows : List Str} (G : Good rows) : ∀ r ∈ rows, ∀ c ∈ codes r, okSign c = true := fun r hr => (G.len r hr).2.2
theorem letters_ok {rows : List Str} (G : Good rows) : F_letters [.str (cutText rows)] = .ok (.lst .own ((letts rows).map fun c => .str (one c))) := by
  have a := G.rows_of
  have hc := codes_ok G
  refine fn_by rfl (by simp) ?_
  simp [c_letters, lend, a]
  refine wp_sq (wp_pre (emb := D.str) (fun pre e => ∃ z2 z3, e = [some (.str (cutText rows)), some (.dk .own (tbl (setL (dd (signsL pre)) (.bl true)))), z2, z3]) ⟨_, _, rfl⟩ (fun pre r post e hx ⟨z2, z3, he⟩ => ?_) fun e ⟨z2, z3, he⟩ => ?_)
  · subst he
    refine ⟨_, rfl, ?_⟩
    simp [c_letters_b2]
    rw [chars_codes]
    refine wp_pre (fun p2 e => ∃ z3, e = [some (.str (cutText rows)), some (.dk .own (tbl (setL (dd (signsL pre ++ p2.map one)) (.bl true)))), some (.str r), z3]) ⟨_, by simp; rfl⟩ (fun p2 c post2 e hx2 ⟨z3, he⟩ => ?_) fun e ⟨z3, he⟩ => ?_
    · subst he
      refine ⟨_, rfl, ?_⟩
      have hs : (dd (signsL pre ++ p2.map one)).length < sizeLine := line_gt (Nat.le_trans (by
        refine Nat.le_trans (nodup_le (m := dd (signsL rows)) (dd_nodup _) fun x hm => ?_) (signs_len hc)
        rw [mem_dd] at hm ⊢
        rw [hx]
        unfold signsL at hm ⊢
        rw [List.flatMap_append, List.flatMap_cons]
        rcases List.mem_append.mp hm with h | h
        · exact List.mem_append_left _ h
        · refine List.mem_append_right _ (List.mem_append_left _ ?_)
          rw [hx2, List.map_append]
          exact List.mem_append_left _ h) (by omega : (27 : Nat) ≤ 1000000))
      simp [c_letters_b1, lend, hs]
      rw [setA_setL, ← dd_snoc, List.append_assoc]
    · subst he
      refine ⟨some (.str r), z3, ?_⟩
      have : signsL (pre ++ [r]) = signsL pre ++ (codes r).map one := by unfold signsL; rw [List.flatMap_append, List.flatMap_cons, List.flatMap_nil, List.append_nil]
      rw [this]
  · subst he
    have hlc : lcK [3] (putE false 3) (sem { fs := [(1, F_rows_of)] } (.cmp .NotEq (.nm 3) (.cT "."))).T (sem { fs := [(1, F_rows_of)] } (.nm 3)).V ((dd (signsL rows)).map D.str) [some (.str (cutText rows)), some (.dk .fr (tbl (setL (dd (signsL rows)) (.bl true)))), z2, z3] = .ok (.lst .own (((dd (signsL rows)).filter fun x => !decide (x = air)).map D.str)) [some (.str (cutText rows)), some (.dk .fr (tbl (setL (dd (signsL rows)) (.bl true)))), z2, none] := by
      have h27 : (dd (signsL rows)).length ≤ sizeLine := line_ge (Nat.le_trans (signs_len hc) (by omega))
      refine lcK_filter (e := [some (.str (cutText rows)), some (.dk .fr (tbl (setL (dd (signsL rows)) (.bl true)))), z2, z3]) D.str (fun x => !decide (x = air)) D.str _ h27 fun x hx => ?_
      refine ⟨_, rfl, _, rfl, ?_⟩
      by_cases h : x = air <;> simp [h] <;> first | exact ⟨_, rfl, rfl⟩ | rfl
    have e := letters_sorted hc
    simp [hlc, e]
    trace_state
end L

set_option Elab.async false
set_option linter.all false
set_option maxRecDepth 100000
namespace L
open DG PySem PySem.Spec PyProof.Rows L2 TL
set_option autoImplicit false
/-! ### meetings of a cut -/
def meetAt (q : Nat × Nat) : Option (Str × Str) := if q.1 ≠ 46 ∧ q.1 ≠ q.2 then some (one q.1, one q.2) else none
def meet2 (a b : Str) : List (Str × Str) := ((codes a).zip (codes b)).filterMap meetAt
def meetL (rows : List Str) : List (Str × Str) := (rows.zip (rows.tail)).flatMap fun q => meet2 q.1 q.2
def meets (rows : List Str) : List (Str × Str) := sortA py2 (dd (meetL rows))
def prods (l : List Str) : List (Str × Str) := l.flatMap fun a => l.map fun b => (a, b)
theorem mem_prods {l : List Str} {p : Str × Str} : p ∈ prods l ↔ p.1 ∈ l ∧ p.2 ∈ l := by
  unfold prods
  rw [List.mem_flatMap]
  constructor
  · rintro ⟨a, ha, h⟩
    obtain ⟨b, hb, rfl⟩ := List.mem_map.mp h
    exact ⟨ha, hb⟩
  · rintro ⟨h1, h2⟩
    exact ⟨p.1, h1, List.mem_map.mpr ⟨p.2, h2, rfl⟩⟩
theorem prods_len (l : List Str) : (prods l).length = l.length * l.length := by
  unfold prods
  rw [List.length_flatMap]
  have : ∀ m : List Str, (m.map fun a => (l.map fun b => (a, b)).length).sum = m.length * l.length := fun m => by
    induction m with
    | nil => simp
    | cons x m ih => rw [List.map_cons, List.sum_cons, ih, List.length_map, List.length_cons, Nat.succ_mul]; omega
  exact this l
theorem mem_meet2 {a b : Str} {p : Str × Str} : p ∈ meet2 a b ↔ ∃ u l, (u, l) ∈ (codes a).zip (codes b) ∧ u ≠ 46 ∧ u ≠ l ∧ p = (one u, one l) := by
  unfold meet2
  rw [List.mem_filterMap]
  constructor
  · rintro ⟨⟨u, l⟩, h1, h2⟩
    unfold meetAt at h2
    split at h2
    · rename_i h; cases h2; exact ⟨u, l, h1, h.1, h.2, rfl⟩
    · cases h2
  · rintro ⟨u, l, h1, h2, h3, rfl⟩
    exact ⟨(u, l), h1, by unfold meetAt; rw [if_pos ⟨h2, h3⟩]⟩
theorem meet2_sub {rows : List Str} (hc : ∀ r ∈ rows, ∀ c ∈ codes r, okSign c = true) {a b : Str} (ha : a ∈ rows) (hb : b ∈ rows) {p : Str × Str} (h : p ∈ meet2 a b) : p ∈ prods ((46 :: abcN).map one) := by
  obtain ⟨u, l, h1, _, _, rfl⟩ := mem_meet2.mp h
  have key : ∀ c, okSign c = true → one c ∈ (46 :: abcN).map one := fun c h => by
    refine List.mem_map.mpr ⟨c, ?_, rfl⟩
    unfold okSign at h
    rw [Bool.or_eq_true, decide_eq_true_eq] at h
    rw [List.mem_cons, mem_abcN]
    exact h.symm
  exact mem_prods.mpr ⟨key u (hc a ha u (List.of_mem_zip h1).1), key l (hc b hb l (List.of_mem_zip h1).2)⟩
theorem meet_few {rows : List Str} (hc : ∀ r ∈ rows, ∀ c ∈ codes r, okSign c = true) {l : List (Str × Str)} (h : ∀ p ∈ l, p ∈ prods ((46 :: abcN).map one)) : (dd l).length < sizeLine := by
  refine line_gt (Nat.le_trans (nodup_le (dd_nodup _) fun p hp => h p (mem_dd.mp hp)) ?_)
  rw [prods_len]; decide
theorem meetings_ok {rows : List Str} (G : Good rows) : F_meetings [.str (cutText rows)] = .ok (.lst .own ((meets rows).map e2)) := by
  have a := G.rows_of
  have hc := codes_ok G
  refine fn_by rfl (by simp) ?_
  simp [c_meetings, lend, a]
  have hz : zipD (rows.map D.str) ((cutL rows (some 1) none).map D.str) = (rows.zip (rows.tail)).map fun q => .tup [.str q.1, .str q.2] := by
    have : cutL rows (some 1) none = rows.tail := by
      unfold cutL HT.sIx
      have h1 : 1 ≤ rows.length := List.length_pos_iff.mpr G.ne
      simp [show min 1 rows.length = 1 by omega, List.take_of_length_le]
    rw [this, zipD_map]
  rw [hz]
  refine wp_sq (wp_pre (fun pre e => ∃ z3 z4 z5 z6, e = [some (.str (cutText rows)), some (.lst .fr (rows.map .str)), some (.dt .own (tb2 (setL (dd (pre.flatMap fun q => meet2 q.1 q.2)) (.bl true)))), z3, z4, z5, z6]) ⟨_, _, _, _, rfl⟩ (fun pre q post e hx ⟨z3, z4, z5, z6, he⟩ => ?_) fun e ⟨z3, z4, z5, z6, he⟩ => ?_)
  · subst he
    refine ⟨_, rfl, ?_⟩
    simp [c_meetings_b2, zipL_str]
    have hz2 : zipD (chars q.1) (chars q.2) = ((codes q.1).zip (codes q.2)).map fun q => .tup [.str (one q.1), .str (one q.2)] := zip_chars _ _
    rw [hz2]
    refine wp_pre (fun p2 e => ∃ z5 z6, e = [some (.str (cutText rows)), some (.lst .fr (rows.map .str)), some (.dt .own (tb2 (setL (dd ((pre.flatMap fun q => meet2 q.1 q.2) ++ p2.filterMap meetAt)) (.bl true)))), some (.str q.1), some (.str q.2), z5, z6]) ⟨z5, z6, by simp⟩ (fun p2 c post2 e hx2 ⟨z5, z6, he⟩ => ?_) fun e ⟨z5, z6, he⟩ => ?_
    · subst he
      refine ⟨_, rfl, ?_⟩
      have hq : q.1 ∈ rows ∧ q.2 ∈ rows := by
        have : q ∈ rows.zip (rows.tail) := by rw [hx]; simp
        exact ⟨(List.of_mem_zip this).1, List.mem_of_mem_tail (List.of_mem_zip this).2⟩
      have hs : (dd ((pre.flatMap fun q => meet2 q.1 q.2) ++ p2.filterMap meetAt)).length < sizeLine := meet_few hc fun p hp => by
        rcases List.mem_append.mp hp with h | h
        · obtain ⟨w, hw, h⟩ := List.mem_flatMap.mp h
          have : w ∈ rows.zip (rows.tail) := by rw [hx]; exact List.mem_append_left _ hw
          exact meet2_sub hc (List.of_mem_zip this).1 (List.mem_of_mem_tail (List.of_mem_zip this).2) h
        · refine meet2_sub hc hq.1 hq.2 ?_
          unfold meet2
          rw [hx2, List.filterMap_append]
          exact List.mem_append_left _ h
      have e2 : Str.ofString "." = air := rfl
      by_cases h1 : c.1 = 46
      · have : meetAt c = none := by unfold meetAt; rw [if_neg fun z => z.1 h1]
        simp [c_meetings_b1, lend, e2, air_one, one_eq, h1, this]
      · by_cases h2 : c.1 = c.2
        · have : meetAt c = none := by unfold meetAt; rw [if_neg fun z => z.2 h2]
          simp [c_meetings_b1, lend, e2, air_one, one_eq, h1, h2, this]
        · have : meetAt c = some (one c.1, one c.2) := by unfold meetAt; rw [if_pos ⟨h1, h2⟩]
          simp [c_meetings_b1, lend, e2, air_one, one_eq, h1, h2, this, hs, setA_setL, ← dd_snoc]
    · subst he
      (first | exact rfl | exact ⟨_, rfl⟩ | exact ⟨_, _, rfl⟩ | exact ⟨_, _, _, rfl⟩ | exact ⟨_, _, _, _, rfl⟩ | exact ⟨_, _, _, _, _, rfl⟩ | exact ⟨_, _, _, _, _, _, rfl⟩ | exact ⟨_, _, _, _, _, _, _, rfl⟩ | exact ⟨_, _, _, _, _, _, _, _, rfl⟩ | exact ⟨_, _, _, _, _, _, _, _, _, rfl⟩ | exact ⟨_, _, _, _, _, _, _, _, _, _, rfl⟩)
  · subst he
    simp [lend, meets, meetL]
/-! ### turned, wider -/
def wideS (n : Nat) (x : Str) : Str := ⟨((codes x).flatMap fun c => List.replicate n c).toArray⟩
theorem codes_rev (x : Str) : codes (revS x) = (codes x).reverse := by unfold codes revS; simp
theorem codes_wide (n : Nat) (x : Str) : codes (wideS n x) = (codes x).flatMap fun c => List.replicate n c := by
  show ((codes x).flatMap fun c => List.replicate n c).toArray.toList = _
  simp
theorem len_codes (x : Str) : x.length = (codes x).length := rfl
theorem rev_len (x : Str) : (revS x).length = x.length := by rw [len_codes, len_codes, codes_rev, List.length_reverse]
theorem rep_codes (n : Nat) (l : List Nat) : (l.flatMap fun c => List.replicate n c).length = l.length * n := by
  induction l with
  | nil => simp
  | cons c l ih => rw [List.flatMap_cons, List.length_append, List.length_replicate, ih, List.length_cons, Nat.succ_mul]; omega
theorem wide_len (n : Nat) (x : Str) : (wideS n x).length = x.length * n := by rw [len_codes, len_codes, codes_wide, rep_codes]
theorem rev_rev (x : Str) : revS (revS x) = x := by
  have : codes (revS (revS x)) = codes x := by rw [codes_rev, codes_rev, List.reverse_reverse]
  exact PySem.W.str_of_cps this
theorem nth_map (f : Str → Str) {l : List Str} {i : Nat} (h : i < l.length) : nth (l.map f) i = f (nth l i) := by
  have e := List.getElem?_eq_getElem h
  rw [nth_get e]
  exact nth_get (by rw [List.getElem?_map, e]; rfl)
theorem allAir_codes (x : Str) : allAir x = (codes x).all fun c => decide (c = 46) := rfl
theorem hole_codes (a b : Str) : hole a b = ((codes a).zip (codes b)).any holeAt := rfl
theorem rowOk_iff {x : Str} {w : Nat} : rowOk x w = true ↔ 1 ≤ x.length ∧ x.length ≤ 40 ∧ x.length = w ∧ ∀ c ∈ codes x, okSign c = true := by
  unfold rowOk
  simp only [Bool.and_eq_true, decide_eq_true_eq, List.all_eq_true]
  constructor
  · rintro ⟨⟨⟨h1, h2⟩, h3⟩, h4⟩; exact ⟨h1, h2, by omega, h4⟩
  · rintro ⟨h1, h2, h3, h4⟩; exact ⟨⟨⟨h1, h2⟩, by omega⟩, h4⟩
/-- rows changed alike: still a cut -/
theorem Good.mapped {rows : List Str} (G : Good rows) (f : Str → Str) (w : Nat) (h : ∀ r ∈ rows, 1 ≤ (f r).length ∧ (f r).length ≤ 40 ∧ (f r).length = w ∧ ∀ c ∈ codes (f r), okSign c = true)
    (hh : ∀ a ∈ rows, ∀ b ∈ rows, a.length = b.length → hole a b = false → hole (f a) (f b) = false) (ha : ∀ a ∈ rows, allAir a = false → allAir (f a) = false) : Good (rows.map f) := by
  have hl : 1 ≤ rows.length := List.length_pos_iff.mpr G.ne
  have mem : ∀ i, i < rows.length → nth rows i ∈ rows := fun i hi => by rw [nth_get (List.getElem?_eq_getElem hi)]; exact List.getElem_mem hi
  have len : ∀ i, i < rows.length → (nth rows i).length = (nth rows 0).length := fun i hi => by
    have := rowOk_iff.mp (G.ok i (nth rows i) (by rw [List.getElem?_eq_getElem hi, nth_get (List.getElem?_eq_getElem hi)]))
    exact this.2.2.1
  refine ⟨by simpa using G.ne, by rw [List.length_map]; exact G.few, fun i x hx => ?_, fun i h0 hi => ?_, ?_⟩
  · rw [List.getElem?_map, Option.map_eq_some_iff] at hx
    obtain ⟨y, hy, rfl⟩ := hx
    have h1 := h y (List.mem_of_getElem? hy)
    have h2 := h (nth rows 0) (mem 0 (by omega))
    rw [nth_map f (by omega)]
    exact rowOk_iff.mpr ⟨h1.1, h1.2.1, by omega, h1.2.2.2⟩
  · rw [List.length_map] at hi
    rw [nth_map f (by omega), nth_map f hi]
    exact hh _ (mem _ (by omega)) _ (mem _ hi) (by rw [len _ (by omega), len _ hi]) (G.nh i h0 hi)
  · rw [List.length_map, nth_map f (by omega)]
    exact ha _ (mem _ (by omega)) G.la
theorem any_rev {α : Type} (p : α → Bool) (l : List α) : l.reverse.any p = l.any p := by
  rw [Bool.eq_iff_iff]; simp
theorem zip_rev {α β : Type} : ∀ {a : List α} {b : List β}, a.length = b.length → a.reverse.zip b.reverse = (a.zip b).reverse
  | [], [], _ => rfl
  | x :: a, y :: b, h => by
    have h' : a.length = b.length := by simpa using h
    rw [List.reverse_cons, List.reverse_cons, List.zip_append (by simp [h']), zip_rev h']
    show (a.zip b).reverse ++ [(x, y)] = ((x, y) :: a.zip b).reverse
    rw [List.reverse_cons]
theorem Good.width {rows : List Str} (G : Good rows) : ∀ r ∈ rows, 1 ≤ r.length ∧ r.length ≤ 40 ∧ r.length = (nth rows 0).length ∧ ∀ c ∈ codes r, okSign c = true := fun r hr => by
  obtain ⟨i, hi⟩ := List.getElem?_of_mem hr
  exact rowOk_iff.mp (G.ok i r hi)
theorem Good.rev {rows : List Str} (G : Good rows) : Good (rows.map revS) := by
  refine G.mapped revS (nth rows 0).length (fun r hr => ?_) (fun a _ b _ hl h => ?_) fun a _ h => ?_
  · obtain ⟨h1, h2, h3, h4⟩ := G.width r hr
    rw [rev_len]
    exact ⟨h1, h2, h3, fun c hc => h4 c (by rw [codes_rev, List.mem_reverse] at hc; exact hc)⟩
  · rw [hole_codes, codes_rev, codes_rev, zip_rev (show (codes a).length = (codes b).length from hl), any_rev, ← hole_codes]; exact h
  · rw [allAir_codes, codes_rev, List.all_reverse, ← allAir_codes]; exact h
theorem zip_rep {α β : Type} (n : Nat) : ∀ {a : List α} {b : List β}, a.length = b.length → (a.flatMap fun c => List.replicate n c).zip (b.flatMap fun c => List.replicate n c) = (a.zip b).flatMap fun c => List.replicate n c
  | [], [], _ => rfl
  | x :: a, y :: b, h => by
    have h' : a.length = b.length := by simpa using h
    rw [List.flatMap_cons, List.flatMap_cons, List.zip_append (by simp), zip_rep n h', List.zip_cons_cons, List.flatMap_cons]
    congr 1
    exact List.zip_replicate'
theorem Good.wide {rows : List Str} (G : Good rows) (n : Nat) (hn : 1 ≤ n) (hw : (nth rows 0).length * n ≤ 40) : Good (rows.map (wideS n)) := by
  refine G.mapped (wideS n) ((nth rows 0).length * n) (fun r hr => ?_) (fun a _ b _ hl h => ?_) fun a _ h => ?_
  · obtain ⟨h1, h2, h3, h4⟩ := G.width r hr
    rw [wide_len, h3]
    refine ⟨?_, hw, rfl, fun c hc => ?_⟩
    · rw [← h3]; exact Nat.mul_pos h1 hn
    · rw [codes_wide, List.mem_flatMap] at hc
      obtain ⟨d, hd, hc⟩ := hc
      rw [(List.mem_replicate.mp hc).2]; exact h4 d hd
  · rw [hole_codes, codes_wide, codes_wide, zip_rep n (show (codes a).length = (codes b).length from hl)]
    rw [hole_codes, List.any_eq_false] at h
    rw [List.any_eq_false]
    intro q hq
    obtain ⟨d, hd, hq⟩ := List.mem_flatMap.mp hq
    rw [(List.mem_replicate.mp hq).2]; exact h d hd
  · rw [allAir_codes, List.all_eq_false] at h
    obtain ⟨c, hc, h⟩ := h
    rw [allAir_codes, List.all_eq_false]
    exact ⟨c, by rw [codes_wide]; exact List.mem_flatMap.mpr ⟨c, hc, List.mem_replicate.mpr ⟨by omega, rfl⟩⟩, h⟩
theorem turned_ok {rows : List Str} (G : Good rows) : F_turned [.str (cutText rows)] = .ok (.str (cutText (rows.map revS))) := by
  have a := G.rows_of
  have j := G.rev.joined .ro
  rw [List.map_map] at j
  have hr : rows.length ≤ sizeLine := line_ge (by have := G.few; omega)
  have e3 : (⟨#[10]⟩ : Str) = nlS := rfl
  refine fn_by rfl (by simp) ?_
  have hlc : lcK [1] (putE false 1) (M.ret true) (sem { fs := [(1, F_rows_of)] } (.stp (-1) (.nm 1))).V (rows.map D.str) [some (.str (cutText rows)), none] = .ok (.lst .own (rows.map (D.str ∘ revS))) [some (.str (cutText rows)), none] := by
    refine lcK_map (e := [some (.str (cutText rows)), none]) D.str (D.str ∘ revS) rows hr fun x hx => ⟨_, rfl, [some (.str (cutText rows)), some (.str x)], ?_, rfl⟩
    have := (G.width x hx).2.1
    have hx2 : x.length ≤ sizeLine := line_ge (by omega)
    simp [stpD, hx2]
  simp [c_turned, lend, a, hlc, e3, j]

end L
namespace L
open DG PySem PySem.Spec PyProof.Rows L2 TL
/-- the letters of some rows, as texts -/
def lettS (rows : List Str) : List Str := (letts rows).map one
theorem letters_S {rows : List Str} (G : Good rows) : F_letters [.str (cutText rows)] = .ok (.lst .own ((lettS rows).map .str)) := by
  rw [letters_ok G]; unfold lettS; rw [List.map_map]; rfl
theorem one_ok {c : Nat} (h : okSign c = true) : PyData.strOk (one c) = true := by
  unfold PyData.strOk
  rw [Array.all_eq_true']
  intro d hd
  have : d = c := by simpa [one] using hd
  subst this
  exact decide_eq_true (okSign_lt h)
theorem low_ok {c : Nat} (h : low c = true) : okSign c = true := by unfold okSign; rw [h]; rfl
theorem lettS_ok (rows : List Str) : (lettS rows).all PyData.strOk = true := by
  rw [List.all_eq_true]
  intro x hx
  obtain ⟨c, hc, rfl⟩ := List.mem_map.mp hx
  exact one_ok (low_ok (mem_letts.mp hc).1)
theorem meets_sub {rows : List Str} (G : Good rows) {p : Str × Str} (h : p ∈ meets rows) : p ∈ prods ((46 :: abcN).map one) := by
  unfold meets at h
  rw [sortA_mem, mem_dd] at h
  unfold meetL at h
  obtain ⟨q, hq, h⟩ := List.mem_flatMap.mp h
  exact meet2_sub (codes_ok G) (List.of_mem_zip hq).1 (List.mem_of_mem_tail (List.of_mem_zip hq).2) h
theorem meets_len {rows : List Str} (G : Good rows) : (meets rows).length ≤ 729 := by
  unfold meets
  rw [sortA_len]
  refine Nat.le_trans (nodup_le (dd_nodup _) fun p hp => ?_) (Nat.le_of_eq (prods_len ((46 :: abcN).map one)))
  refine meets_sub G ?_
  unfold meets
  rw [sortA_mem]; exact hp
end L

set_option Elab.async false
set_option linter.all false
set_option maxRecDepth 100000
namespace L
open DG PySem PySem.Spec PyProof.Rows L2 TL
set_option autoImplicit false
theorem joinL_flat : ∀ l : List (List Nat), joinL [] l = l.flatten
  | [] => rfl
  | [c] => by show c = _; simp
  | c :: d :: l => by
    show c ++ ([] ++ joinL [] (d :: l)) = _
    rw [joinL_flat (d :: l)]; simp
theorem join_flat (l : List Str) : Txt.join (Str.ofString "") l = ⟨(l.flatMap codes).toArray⟩ := by
  have h : tl (Txt.join (Str.ofString "") l) = l.flatMap codes := by
    rw [join_eq, tl_join]
    show joinL [] _ = _
    rw [joinL_flat, List.flatMap_def]; rfl
  generalize Txt.join (Str.ofString "") l = z at h
  cases z with
  | mk c =>
    have h : c.toList = l.flatMap codes := h
    rw [← h]
theorem codes_rep (c n : Nat) : codes (repS (one c) n) = List.replicate n c := by
  unfold codes repS one
  simp
theorem rep_one_len (c n : Nat) : (repS (one c) n).length = n := by rw [repS_len]; show 1 * n = n; omega
theorem sum_le {α : Type} (f : α → Nat) (m : Nat) : ∀ l : List α, (∀ x ∈ l, f x ≤ m) → (l.map f).sum ≤ l.length * m
  | [], _ => by simp
  | x :: l, h => by
    rw [List.map_cons, List.sum_cons, List.length_cons, Nat.succ_mul]
    have h1 := h x List.mem_cons_self
    have h2 := sum_le f m l fun y hy => h y (List.mem_cons_of_mem _ hy)
    omega
theorem noneS_len : (Str.ofString "").length = 0 := rfl
theorem wide_join (n : Nat) (x : Str) (hx : x.length ≤ 40) (hn : n ≤ 40) (f : Fl) : joinD (.str (Str.ofString "")) [.lst f ((codes x).map fun c => .str (repS (one c) n))] = some (.sc (.str (wideS n x))) := by
  have e : ((codes x).map fun c => D.str (repS (one c) n)) = ((codes x).map fun c => repS (one c) n).map D.str := by rw [List.map_map]; rfl
  have hz : (((codes x).map fun c => repS (one c) n).map (·.length)).sum ≤ 1600 := by
    refine Nat.le_trans (sum_le _ 40 _ fun y hy => ?_) ?_
    · obtain ⟨c, _, rfl⟩ := List.mem_map.mp hy
      rw [rep_one_len]; exact hn
    · rw [List.length_map, ← len_codes]; omega
  rw [e, joinD_lst, strsD_str, Option.bind_some, if_pos, join_flat]
  · congr 3
    unfold wideS
    congr 2
    rw [List.flatMap_map]
    congr 1
    funext c
    exact codes_rep c n
  · rw [noneS_len]
    unfold bigT
    omega
theorem Good.atI0 {rows : List Str} (G : Good rows) : atI (rows.map D.str) 0 = some (.str (nth rows 0)) := by
  have hl : 0 < rows.length := List.length_pos_iff.mpr G.ne
  refine atI_get (by omega) ?_
  rw [List.getElem?_map, show (0 : Int).toNat = 0 from rfl, List.getElem?_eq_getElem hl, nth_get (List.getElem?_eq_getElem hl)]; rfl
theorem Good.w0 {rows : List Str} (G : Good rows) : 1 ≤ (nth rows 0).length ∧ (nth rows 0).length ≤ 40 := by
  have hl : 0 < rows.length := List.length_pos_iff.mpr G.ne
  have := G.width (nth rows 0) (by rw [nth_get (List.getElem?_eq_getElem hl)]; exact List.getElem_mem hl)
  exact ⟨this.1, this.2.1⟩
theorem wider_ok {rows : List Str} (G : Good rows) (n : Nat) (h1 : 1 ≤ n) (h9 : n ≤ 9) : F_wider [.str (cutText rows), .int n] = if (nth rows 0).length * n ≤ 40 then .ok (.str (cutText (rows.map (wideS n)))) else noCut 0 := by
  have a := G.rows_of
  have hr : rows.length ≤ sizeLine := line_ge (by have := G.few; omega)
  have e3 : (⟨#[10]⟩ : Str) = nlS := rfl
  have w0 := G.w0
  have hw : (nth rows 0).length ≤ sizeLine := line_ge (by omega)
  have c64 : -18446744073709551616 < (n : Int) ∧ (n : Int) < 18446744073709551616 := by omega
  have at0 := G.atI0
  have kix : inIx (n : Int) := by unfold inIx; omega
  refine fn_by rfl (by simp) ?_
  by_cases hc : (nth rows 0).length * n ≤ 40
  · have c1 : ¬ (40 : Int) < ((nth rows 0).length : Int) * n := by
      have : ((nth rows 0).length : Int) * n = (((nth rows 0).length * n : Nat) : Int) := by simp
      omega
    have j := (G.wide n h1 hc).joined .ro
    rw [List.map_map] at j
    rw [if_pos hc]
    have hlc : lcK [3] (putE false 3) (M.ret true) (sem { fs := [(1, F_rows_of)] } (.met 0 (.cT "") (.lc [4] (.tgn 4) (.nm 3) .yes (.bin .Mult (.nm 4) (.np 1))))).V (rows.map D.str) [some (.str (cutText rows)), some (.int n), some (.lst .fr (rows.map .str)), none, none] = .ok (.lst .own (rows.map (D.str ∘ wideS n))) [some (.str (cutText rows)), some (.int n), some (.lst .fr (rows.map .str)), none, none] := by
      refine lcK_map (e := [some (.str (cutText rows)), some (.int n), some (.lst .fr (rows.map .str)), none, none]) D.str (D.str ∘ wideS n) rows hr fun x hx => ⟨_, rfl, [some (.str (cutText rows)), some (.int n), some (.lst .fr (rows.map .str)), some (.str x), none], ?_, rfl⟩
      have hx40 := (G.width x hx).2.1
      have hlc2 : lcK [4] (putE false 4) (M.ret true) (sem { fs := [(1, F_rows_of)] } (.bin .Mult (.nm 4) (.np 1))).V (chars x) [some (.str (cutText rows)), some (.int n), some (.lst .fr (rows.map .str)), some (.str x), none] = .ok (.lst .own ((codes x).map fun c => .str (repS (one c) n))) [some (.str (cutText rows)), some (.int n), some (.lst .fr (rows.map .str)), some (.str x), none] := by
        rw [chars_codes]
        refine lcK_map (e := [some (.str (cutText rows)), some (.int n), some (.lst .fr (rows.map .str)), some (.str x), none]) _ _ _ (line_ge (by rw [← len_codes]; omega)) fun c hc => ⟨_, rfl, [some (.str (cutText rows)), some (.int n), some (.lst .fr (rows.map .str)), some (.str x), some (.str (one c))], ?_, rfl⟩
        have : (one c).length = 1 := rfl
        have hn : n ≤ sizeLine := line_ge (by omega)
        simp [kix, this, hn]
      have jw := wide_join n x hx40 (by omega) .ro
      simp [lend, hlc2, jw]
    simp [c_wider, lend, a, at0, hw, c64, c1, hlc, e3, j]
  · have c1 : (40 : Int) < ((nth rows 0).length : Int) * n := by
      have : ((nth rows 0).length : Int) * n = (((nth rows 0).length * n : Nat) : Int) := by simp
      omega
    rw [if_neg hc]
    simp [c_wider, lend, a, at0, hw, c64, c1, noCut, allFS]
end L
namespace L
open DG PySem PySem.Spec PyProof.Rows L2 TL
/-! ### texts by their signs -/
def mkS (l : List Nat) : Str := ⟨l.toArray⟩
theorem mkS_codes (x : Str) : mkS (codes x) = x := PySem.W.str_of_cps (by show (codes x).toArray.toList = _; simp [codes])
theorem codes_mkS (l : List Nat) : codes (mkS l) = l := by show l.toArray.toList = l; simp
theorem mkS_app (l m : List Nat) : mkS l ++ mkS m = mkS (l ++ m) := PySem.W.str_of_cps (by
  show (l.toArray ++ m.toArray).toList = (l ++ m).toArray.toList
  simp)
theorem one_mkS (c : Nat) : one c = mkS [c] := rfl
theorem none_mkS : Str.ofString "" = mkS [] := rfl
theorem mkS_len (l : List Nat) : (mkS l).length = l.length := by rw [len_codes, codes_mkS]
theorem codes_app (x y : Str) : codes (x ++ y) = codes x ++ codes y := by
  show (x.cps ++ y.cps).toList = _
  simp [codes]
theorem codes_inj {x y : Str} (h : codes x = codes y) : x = y := PySem.W.str_of_cps h
end L

set_option Elab.async false
set_option linter.all false
set_option maxRecDepth 100000
namespace L
open DG PySem PySem.Spec PyProof.Rows L2 TL
set_option autoImplicit false
theorem refused_exc {d : D} {n : Nat} (h : F_rows_of [lend d] = noCut n) (f : D) (hf : f = lend d) : F_law_refused [f, .int 0] = .ok (.int n) := by
  subst hf
  refine fn_by rfl (by simp) ?_
  simp [c_law_refused, c_law_refused_b1, lend, lend_lend, h, noCut, tb_law_refused, xc_law_refused, xt_law_refused]
theorem wrefused_exc {x : Str} {k : Int} (hk : k ≠ 0) {n : Nat} (h : F_wider [.str x, .int k] = noCut n) : F_law_refused [.str x, .int k] = .ok (.int n) := by
  refine fn_by rfl (by simp) ?_
  simp [c_law_refused, c_law_refused_b1, lend, lend_lend, h, hk, noCut, tb_law_refused, xc_law_refused, xt_law_refused]
end L

set_option Elab.async false
set_option linter.all false
set_option maxRecDepth 100000
namespace L
open DG PySem PySem.Spec PyProof.Rows L2 TL
set_option autoImplicit false
theorem meets_ok {rows : List Str} (G : Good rows) : (meets rows).all ok2 = true := by
  rw [List.all_eq_true]
  intro p hp
  obtain ⟨h1, h2⟩ := mem_prods.mp (meets_sub G hp)
  have key : ∀ x ∈ (46 :: abcN).map one, okS x = true := fun x hx => by
    obtain ⟨c, hc, rfl⟩ := List.mem_map.mp hx
    refine one_ok ?_
    rcases List.mem_cons.mp hc with h | h
    · subst h; rfl
    · exact low_ok (mem_abcN.mp h)
  unfold ok2
  rw [key _ h1, key _ h2]; rfl
theorem sub_one (c : Nat) (x : Str) : subS (one c) x = decide (c ∈ codes x) := PySem.StrLaws.found_one x c
def cAt (x : Str) (j : Nat) : Nat := (codes x).getD j 46
theorem cAt_get {x : Str} {j : Nat} (h : j < x.length) : (codes x)[j]? = some (cAt x j) := by
  have h : j < (codes x).length := h
  unfold cAt
  rw [List.getD_eq_getElem?_getD, List.getElem?_eq_getElem h]; rfl
theorem atI_codes {x : Str} {j : Nat} (h : j < x.length) : atI x.cps.toList (0 + (j : Int)) = some (cAt x j) := atI_get (by omega) (by rw [show (0 + (j : Int)).toNat = j by omega]; exact cAt_get h)
theorem atI_row {rows : List Str} {i : Int} {k : Nat} (hi : i = k) (h : k < rows.length) : atI (rows.map D.str) i = some (.str (nth rows k)) := by
  subst hi
  refine atI_get (by omega) ?_
  rw [List.getElem?_map, show ((k : Int)).toNat = k by omega, List.getElem?_eq_getElem h, nth_get (List.getElem?_eq_getElem h)]; rfl
theorem abc_codes : codes abc = abcN := abc_list
theorem zip_codes {a b : Str} (h : a.length = b.length) : (codes a).zip (codes b) = (List.range b.length).map fun j => (cAt a j, cAt b j) := by
  refine List.ext_getElem? fun j => ?_
  by_cases hj : j < b.length
  · rw [List.getElem?_map, List.getElem?_range hj, Option.map_some, List.getElem?_zip_eq_some]
    exact ⟨cAt_get (by omega), cAt_get hj⟩
  · rw [List.getElem?_eq_none (by rw [List.length_zip]; show min a.length b.length ≤ j; omega), List.getElem?_eq_none (by simp; omega)]
theorem cutL_to {α : Type} (l : List α) {a : Int} (h : 0 ≤ a) : cutL l none (some a) = l.take a.toNat := by
  unfold cutL HT.sIx
  simp [show ¬ a < 0 by omega]
  try omega
theorem cutL_from {α : Type} (l : List α) {a : Int} (h : 0 ≤ a) : cutL l (some a) none = l.drop a.toNat := by
  unfold cutL HT.sIx
  simp [show ¬ a < 0 by omega]
  rw [List.take_of_length_le (by simp)]
  rcases Nat.le_total a.toNat l.length with z | z
  · rw [Nat.min_eq_left z]
  · rw [Nat.min_eq_right z, List.drop_eq_nil_of_le (Nat.le_refl _), List.drop_eq_nil_of_le z]
theorem codes_cutS (x : Str) (lo hi : Option Int) : codes (cutS x lo hi) = cutL (codes x) lo hi := by
  show (((codes x).drop _).take _).toArray.toList = _
  simp [cutL]
  try rfl
end L

set_option Elab.async false
set_option linter.all false
set_option maxRecDepth 100000
namespace L
open DG PySem PySem.Spec PyProof.Rows L2
set_option autoImplicit false
def cf_law_letters : Cf := { N := ["_law_rows", "_law_found", "_law_letter", "_law_row_here"], nl := [0, 1, 2] }
def c_law_letters_b1 : CE := (.ite (.cmp .In (.cB true) (.lc [3] (.tgn 3) (.np 0) .yes (.cmp .In (.np 2) (.nm 3)))) (.ex (.lmt 0 (.np 1) (.cons (.np 2) .nil))) .nx)
def c_law_letters : CE := (.sq (.set 1 (.lst .nil)) (.sq (.fr (.tgn 2) (.cT "abcdefghijklmnopqrstuvwxyz") c_law_letters_b1) (.ret (.np 1))))
def F_law_letters : List D → FRes := fnRun 4 (sem {} c_law_letters).S
def cf_law_meetings : Cf := { N := ["_law_rows", "_law_found", "_law_k", "_law_at"], nl := [0, 1, 2, 3], bl := ["range", "sorted", "len"], dts := [1] }
def c_law_meetings_b1 : CE := (.ite (.an (.cmp .NotEq (.sub (.sub (.np 0) (.bin .Sub (.np 2) (.cI (1)))) (.np 3)) (.cT ".")) (.cmp .NotEq (.sub (.sub (.np 0) (.bin .Sub (.np 2) (.cI (1)))) (.np 3)) (.sub (.sub (.np 0) (.np 2)) (.np 3)))) (.sto (.cB true) (.np 1) (.tup (.cons (.sub (.sub (.np 0) (.bin .Sub (.np 2) (.cI (1)))) (.np 3)) (.cons (.sub (.sub (.np 0) (.np 2)) (.np 3)) .nil)))) .nx)
def c_law_meetings_b2 : CE := (.fr (.tgn 3) (.rng1 (.blt 0 (.cons (.sub (.np 0) (.np 2)) .nil))) c_law_meetings_b1)
def c_law_meetings : CE := (.sq (.set 1 .dnwt) (.sq (.fr (.tgn 2) (.rng2 (.cI (1)) (.blt 0 (.cons (.np 0) .nil))) c_law_meetings_b2) (.ret (.blt 10 (.cons (.np 1) .nil)))))
def F_law_meetings : List D → FRes := fnRun 4 (sem {} c_law_meetings).S
def cf_law_right : Cf := { N := ["_law_rows", "_law_beside", "_law_text", "_law_some", "_law_pairs", "_law_pair"], nl := [0, 1, 2, 3, 4], fn := ["letters", "meetings", "_law_letters", "_law_meetings"], bl := ["isinstance", "list", "tuple"], lcu := [4] }
def c_law_right : CE := (.sq (.set 2 (.met 0 (.cT ⟨#[10]⟩) (.np 0))) (.sq (.set 3 (.call 0 (.cons (.np 2) .nil))) (.sq (.set 4 (.call 1 (.cons (.np 2) .nil))) (.sq (.ite (.ro (.cmp .NotEq (.call 0 (.cons (.met 0 (.cT ⟨#[10]⟩) (.np 1)) .nil)) (.call 2 (.cons (.np 1) .nil))) (.cmp .NotEq (.call 1 (.cons (.met 0 (.cT ⟨#[10]⟩) (.np 1)) .nil)) (.call 3 (.cons (.np 1) .nil)))) (.ret (.cB false)) .nx) (.sq (.ite (.ro (.nt (.isi (.cons (.np 3) (.cons (.ty "list") .nil)))) (.ro (.nt (.isi (.cons (.np 4) (.cons (.ty "list") .nil)))) (.cmp .NotEq (.np 3) (.call 2 (.cons (.np 0) .nil))))) (.ret (.cB false)) .nx) (.sq (.ite (.ro (.cmp .NotEq (.np 4) (.call 3 (.cons (.np 0) .nil))) (.cmp .NotEq (.lcu [5] 4 (.tgn 5) (.nt (.isi (.cons (.nm 5) (.cons (.ty "tuple") .nil)))) (.nm 5)) (.lst .nil))) (.ret (.cB false)) .nx) (.sq (.ex (.lmt 2 (.np 3) .nil)) (.sq (.ex (.lmt 0 (.np 4) (.cons (.tup (.cons (.cT "a") (.cons (.cT "a") .nil))) .nil))) (.ret (.an (.cmp .Eq (.call 0 (.cons (.np 2) .nil)) (.call 2 (.cons (.np 0) .nil))) (.cmp .Eq (.call 1 (.cons (.np 2) .nil)) (.call 3 (.cons (.np 0) .nil)))))))))))))
def F_law_right : List D → FRes := fnRun 6 (sem { fs := [(1, F_letters), (1, F_meetings), (1, F_law_letters), (1, F_law_meetings)] } c_law_right).S
def cf_law : Cf := { N := ["_law_script", "_law_rows", "_law_other"], nl := [0, 1, 2], fn := ["_law_drawn", "_law_row", "_law_right"] }
def c_law : CE := (.sq (.set 1 (.call 0 (.cons (.call 1 (.cons (.np 0) (.cons (.cI (40)) .nil))) .nil))) (.sq (.set 2 (.call 0 (.cons (.call 1 (.cons (.bin .Add (.sli (.np 0) .on (.os (.cI (1)))) (.sli (.np 0) (.os (.cI (2))) .on)) (.cons (.cI (40)) .nil))) .nil))) (.sq (.ite (.ro (.nt (.call 2 (.cons (.np 1) (.cons (.np 2) .nil)))) (.nt (.call 2 (.cons (.np 2) (.cons (.np 1) .nil))))) (.ret (.cB false)) .nx) (.ret (.an (.call 2 (.cons (.np 1) (.cons (.lst (.cons (.cT "b") (.cons (.cT "a") .nil))) .nil))) (.call 2 (.cons (.lst (.cons (.cT "a") .nil)) (.cons (.np 1) .nil))))))))
def F_law : List D → FRes := fnRun 3 (sem { fs := [(1, F_law_drawn), (2, F_law_row), (2, F_law_right)] } c_law).S
end L

set_option Elab.async false
set_option linter.all false
set_option maxRecDepth 100000
namespace L
open DG PySem PySem.Spec PyProof.Rows L2 TL
set_option autoImplicit false
theorem law_letters_ok {rows : List Str} (hl : rows.length ≤ 40) : F_law_letters [.lst .ro (rows.map .str)] = .ok (.lst .own ((letts rows).map fun c => .str (one c))) := by
  refine fn_by rfl (by simp) ?_
  have hr : rows.length ≤ sizeLine := line_ge (by omega)
  simp [c_law_letters, lend]
  rw [abc_def, chars_codes, abc_codes]
  refine wp_sq (wp_pre (fun pre e => ∃ z2, e = [some (.lst .ro (rows.map .str)), some (.lst .own ((pre.filter fun c => rows.any fun r => decide (c ∈ codes r)).map fun c => .str (one c))), z2, none]) ⟨_, rfl⟩ (fun pre c post e hp ⟨z2, he⟩ => ?_) fun e ⟨z2, he⟩ => ?_)
  · subst he
    refine ⟨_, rfl, ?_⟩
    have hlc : lcK [3] (putE false 3) (M.ret true) (sem {} (.cmp .In (.np 2) (.nm 3))).V (rows.map D.str) [some (.lst .ro (rows.map .str)), some (.lst .own ((pre.filter fun c => rows.any fun r => decide (c ∈ codes r)).map fun c => .str (one c))), some (.str (one c)), none] = .ok (.lst .own (rows.map fun r => .bl (decide (c ∈ codes r)))) [some (.lst .ro (rows.map .str)), some (.lst .own ((pre.filter fun c => rows.any fun r => decide (c ∈ codes r)).map fun c => .str (one c))), some (.str (one c)), none] := by
      refine lcK_map (e := [some (.lst .ro (rows.map .str)), some (.lst .own ((pre.filter fun c => rows.any fun r => decide (c ∈ codes r)).map fun c => .str (one c))), some (.str (one c)), none]) D.str _ rows hr fun x hx => ⟨_, rfl, [some (.lst .ro (rows.map .str)), some (.lst .own ((pre.filter fun c => rows.any fun r => decide (c ∈ codes r)).map fun c => .str (one c))), some (.str (one c)), some (.str x)], ?_, rfl⟩
      simp [sub_one]
    have hs : (pre.filter fun c => rows.any fun r => decide (c ∈ codes r)).length < sizeLine := line_gt (by
      have h1 := List.length_filter_le (fun c => rows.any fun r => decide (c ∈ codes r)) pre
      have h2 := congrArg List.length hp
      rw [List.length_append] at h2
      have : abcN.length = 26 := rfl
      omega)
    by_cases hc : (rows.any fun r => decide (c ∈ codes r)) = true
    · simp [c_law_letters_b1, lend, hlc, hc, hs]
    · rw [Bool.not_eq_true] at hc
      simp [c_law_letters_b1, lend, hlc, hc]
  · subst he
    simp [letts]
theorem zip_range {rows : List Str} : rows.zip rows.tail = (List.range (rows.length - 1)).map fun i => (nth rows i, nth rows (i + 1)) := by
  refine List.ext_getElem (by simp) fun i h1 h2 => ?_
  rw [List.length_map, List.length_range] at h2
  have a1 : nth rows i = rows[i]'(by omega) := nth_get (List.getElem?_eq_getElem (by omega))
  have a2 : nth rows (i + 1) = rows[i + 1]'(by omega) := nth_get (List.getElem?_eq_getElem (by omega))
  simp [a1, a2]
theorem law_meetings_ok {rows : List Str} (G : Good rows) : F_law_meetings [.lst .ro (rows.map .str)] = .ok (.lst .own ((meets rows).map e2)) := by
  have hc := codes_ok G
  have hlen : 1 ≤ rows.length := List.length_pos_iff.mpr G.ne
  have few := G.few
  refine fn_by rfl (by simp) ?_
  have k1 : rngOk 1 := by unfold rngOk; omega
  have k2 : rngOk rows.length := by unfold rngOk; omega
  simp [c_law_meetings, lend, k1, k2]
  have hrg : rng 1 (rows.length - 1) = (List.range (rows.length - 1)).map fun i : Nat => D.int (1 + i) := rfl
  rw [hrg]
  have sub : ∀ i, i + 1 < rows.length → ∀ p ∈ meet2 (nth rows i) (nth rows (i + 1)), p ∈ prods ((46 :: abcN).map one) := fun i hi p hp => by
    refine meet2_sub hc ?_ ?_ hp
    · rw [nth_get (List.getElem?_eq_getElem (show i < rows.length by omega))]; exact List.getElem_mem _
    · rw [nth_get (List.getElem?_eq_getElem hi)]; exact List.getElem_mem _
  refine wp_sq (wp_pre (fun pre e => ∃ z2 z3, e = [some (.lst .ro (rows.map .str)), some (.dt .own (tb2 (setL (dd (pre.flatMap fun i => meet2 (nth rows i) (nth rows (i + 1)))) (.bl true)))), z2, z3]) ⟨_, _, rfl⟩ (fun pre i post e hp ⟨z2, z3, he⟩ => ?_) fun e ⟨z2, z3, he⟩ => ?_)
  · subst he
    refine ⟨_, rfl, ?_⟩
    have hi : i + 1 < rows.length := by
      have : i ∈ List.range (rows.length - 1) := by rw [hp]; simp
      have := List.mem_range.mp this
      omega
    have hpre : ∀ j ∈ pre, j + 1 < rows.length := fun j hj => by
      have : j ∈ List.range (rows.length - 1) := by rw [hp]; exact List.mem_append_left _ hj
      have := List.mem_range.mp this
      omega
    have a1 : atI (rows.map D.str) (1 + (i : Int)) = some (.str (nth rows (i + 1))) := atI_row (by omega) hi
    have a0 : atI (rows.map D.str) (1 + (i : Int) - 1) = some (.str (nth rows i)) := atI_row (by omega) (by omega)
    have m0 : nth rows i ∈ rows := by rw [nth_get (List.getElem?_eq_getElem (show i < rows.length by omega))]; exact List.getElem_mem _
    have m1 : nth rows (i + 1) ∈ rows := by rw [nth_get (List.getElem?_eq_getElem hi)]; exact List.getElem_mem _
    have w0 := G.width _ m0
    have w1 := G.width _ m1
    have l0 : (nth rows i).length ≤ sizeLine := line_ge (by omega)
    have l1 : (nth rows (i + 1)).length ≤ sizeLine := line_ge (by omega)
    have kw : rngOk (nth rows (i + 1)).length := by unfold rngOk; omega
    simp [c_law_meetings_b2, lend, a1, l1, kw]
    rw [range_emb]
    have hz : meet2 (nth rows i) (nth rows (i + 1)) = (List.range (nth rows (i + 1)).length).filterMap fun j => meetAt (cAt (nth rows i) j, cAt (nth rows (i + 1)) j) := by
      unfold meet2
      rw [zip_codes (by omega), List.filterMap_map]; rfl
    refine wp_pre (fun p2 e => ∃ z3, e = [some (.lst .ro (rows.map .str)), some (.dt .own (tb2 (setL (dd ((pre.flatMap fun i => meet2 (nth rows i) (nth rows (i + 1))) ++ p2.filterMap fun j => meetAt (cAt (nth rows i) j, cAt (nth rows (i + 1)) j))) (.bl true)))), some (.int (1 + i)), z3]) ⟨z3, by simp⟩ (fun p2 j post2 e hp2 ⟨z3, he⟩ => ?_) fun e ⟨z3, he⟩ => ?_
    · subst he
      refine ⟨_, rfl, ?_⟩
      have hj : j < (nth rows (i + 1)).length := List.mem_range.mp (by rw [hp2]; simp)
      have hs : (dd ((pre.flatMap fun i => meet2 (nth rows i) (nth rows (i + 1))) ++ p2.filterMap fun j => meetAt (cAt (nth rows i) j, cAt (nth rows (i + 1)) j))).length < sizeLine := meet_few hc fun p hpm => by
        rcases List.mem_append.mp hpm with h | h
        · obtain ⟨w, hw, h⟩ := List.mem_flatMap.mp h
          exact sub w (hpre w hw) p h
        · refine sub i hi p ?_
          rw [hz, hp2, List.filterMap_append]
          exact List.mem_append_left _ h
      have b0 : atI (nth rows i).cps.toList (0 + (j : Int)) = some (cAt (nth rows i) j) := atI_codes (by omega)
      have b1 : atI (nth rows (i + 1)).cps.toList (0 + (j : Int)) = some (cAt (nth rows (i + 1)) j) := atI_codes hj
      have e2 : Str.ofString "." = air := rfl
      simp only [Int.zero_add] at b0 b1
      by_cases h1 : cAt (nth rows i) j = 46
      · have : [j].filterMap (fun j => meetAt (cAt (nth rows i) j, cAt (nth rows (i + 1)) j)) = [] := by rw [List.filterMap_cons]; unfold meetAt; rw [if_neg fun z => z.1 h1] <;> rfl
        simp [c_law_meetings_b1, lend, a0, a1, l0, l1, b0, b1, e2, air_one, one_def, one_eq, h1, this]
      · by_cases h2 : cAt (nth rows i) j = cAt (nth rows (i + 1)) j
        · have : [j].filterMap (fun j => meetAt (cAt (nth rows i) j, cAt (nth rows (i + 1)) j)) = [] := by rw [List.filterMap_cons]; unfold meetAt; rw [if_neg fun z => z.2 h2] <;> rfl
          simp [c_law_meetings_b1, lend, a0, a1, l0, l1, b0, b1, e2, air_one, one_def, one_eq, h1, h2, this]
        · have : [j].filterMap (fun j => meetAt (cAt (nth rows i) j, cAt (nth rows (i + 1)) j)) = [(one (cAt (nth rows i) j), one (cAt (nth rows (i + 1)) j))] := by rw [List.filterMap_cons]; unfold meetAt; rw [if_pos ⟨h1, h2⟩] <;> rfl
          simp [c_law_meetings_b1, lend, a0, a1, l0, l1, b0, b1, e2, air_one, one_def, one_eq, h1, h2, this, hs, setA_setL, ← dd_snoc]
    · subst he
      rw [← hz]
      simp

  · subst he
    simp [lend, meets, meetL, zip_range, List.flatMap_map]
theorem law_letters_S {rows : List Str} (hl : rows.length ≤ 40) : F_law_letters [.lst .ro (rows.map .str)] = .ok (.lst .own ((lettS rows).map .str)) := by
  rw [law_letters_ok hl]; unfold lettS; rw [List.map_map]; rfl
theorem right_ok {rows other : List Str} (G : Good rows) (G2 : Good other) : F_law_right [.lst .ro (rows.map .str), .lst .ro (other.map .str)] = .ok (.bl true) := by
  have j1 := G.joined .ro
  have j2 := G2.joined .ro
  have a1 := letters_S G
  have a2 := letters_S G2
  have b1 := meetings_ok G
  have b2 := meetings_ok G2
  have c1 := law_letters_S G.few
  have c2 := law_letters_S G2.few
  have d1 := law_meetings_ok G
  have d2 := law_meetings_ok G2
  have e3 : (⟨#[10]⟩ : Str) = nlS := rfl
  have o1 := lettS_ok rows
  have o2 := lettS_ok other
  have m1 := meets_ok G
  have m2 := meets_ok G2
  have ln : (meets rows).length < sizeLine := line_gt (Nat.le_trans (meets_len G) (by omega))
  have ln1 : (meets rows).length ≤ sizeLine := Nat.le_of_lt ln
  have hlc : ∀ z3, lcK [5] (putE false 5) (sem { fs := [(1, F_letters), (1, F_meetings), (1, F_law_letters), (1, F_law_meetings)] } (.nt (.isi (.cons (.nm 5) (.cons (.ty "tuple") .nil))))).T (sem { fs := [(1, F_letters), (1, F_meetings), (1, F_law_letters), (1, F_law_meetings)] } (.nm 5)).V ((meets rows).map e2) [some (.lst .ro (rows.map .str)), some (.lst .ro (other.map .str)), some (.str (cutText rows)), z3, none, none] = .ok (.lst .own []) [some (.lst .ro (rows.map .str)), some (.lst .ro (other.map .str)), some (.str (cutText rows)), z3, none, none] := fun z3 => by
    have := lcK_filter (own := [5]) (ft := putE false 5) (ftest := (sem { fs := [(1, F_letters), (1, F_meetings), (1, F_law_letters), (1, F_law_meetings)] } (.nt (.isi (.cons (.nm 5) (.cons (.ty "tuple") .nil))))).T) (fe := (sem { fs := [(1, F_letters), (1, F_meetings), (1, F_law_letters), (1, F_law_meetings)] } (.nm 5)).V) (e := [some (.lst .ro (rows.map .str)), some (.lst .ro (other.map .str)), some (.str (cutText rows)), z3, none, none]) e2 (fun _ => false) e2 (meets rows) ln1 fun x hx => ⟨_, rfl, [some (.lst .ro (rows.map .str)), some (.lst .ro (other.map .str)), some (.str (cutText rows)), z3, none, some (e2 x)], by simp [e2], rfl⟩
    rw [this]
    simp

  refine fn_by rfl (by simp) ?_
  simp [c_law_right, lend, e3, j1, j2, a1, a2, b1, b2, c1, c2, d1, d2, o1, o2, m1, m2, hlc, ln]
theorem drawn1 {rows : List Str} (G : Good rows) : Good rows := G
theorem law_ok (ns : List Int) (h : ns.length ≤ 63) : F_law [.lst .ro (ns.map .int)] = .ok (.bl true) := by
  obtain ⟨r1, a1, l1, b1⟩ := row_ok ns h 40 (by omega) .ro
  obtain ⟨rows, d1, C1⟩ := drawn_ok r1 (by omega) b1 .ro
  have hm : (ns.take 1 ++ ns.drop 2).length ≤ 63 := by simp; omega
  obtain ⟨r2, a2, l2, b2⟩ := row_ok (ns.take 1 ++ ns.drop 2) hm 40 (by omega) .ro
  obtain ⟨oth, d2, C2⟩ := drawn_ok r2 (by omega) b2 .ro
  have G := C1.good
  have G2 := C2.good
  have a1 : F_law_row [.lst .ro (ns.map .int), .int 40] = _ := a1
  have a2 : F_law_row [.lst .ro ((ns.take 1 ++ ns.drop 2).map .int), .int 40] = _ := a2
  have gba : Good [Str.ofString "b", Str.ofString "a"] := by
    refine ⟨by simp, by decide, fun i x hx => ?_, fun i h0 h1 => ?_, by decide +kernel⟩
    · match i, hx with
      | 0, hx => cases hx; decide +kernel
      | 1, hx => cases hx; decide +kernel
      | n + 2, hx => cases hx
    · have : i = 1 := by simp at h1; omega
      subst this; decide +kernel
  have ga : Good [Str.ofString "a"] := by
    refine ⟨by simp, by decide, fun i x hx => ?_, fun i h0 h1 => ?_, by decide +kernel⟩
    · match i, hx with
      | 0, hx => cases hx; decide +kernel
      | n + 1, hx => cases hx
    · simp at h1; omega
  have r1 := right_ok G G2
  have r2 := right_ok G2 G
  have r3 := right_ok G gba
  have r4 := right_ok ga G
  have hs : min 1 ns.length + (ns.length - 2) ≤ sizeLine := line_ge (by omega)
  simp only [List.map_cons, List.map_nil] at r3 r4
  refine fn_by rfl (by simp) ?_
  simp [c_law, lend, a1, d1, cutL_to, cutL_from, ← List.map_take, ← List.map_drop, ← List.map_append, hs, a2, d2, r1, r2, r3, r4]
end L

set_option Elab.async false
set_option linter.all false
set_option maxRecDepth 100000
namespace L
open DG PySem PySem.Spec PyProof.Rows L2 TL
set_option autoImplicit false
def top (i : Nat) : Stmt := PySem.Challenge.pw_digbook_k04_letters_and_meetings.main.body.getD i (.Pass ⟨0, 0, 0, 0⟩)
theorem e_law_signs : cDef cf_law_signs (top 16) 40 = c_law_signs := by decide +kernel
theorem s_law_signs : FnScope cf_law_signs.N ["_law_number", "_law_wild"] (defScope (top 16)) := fnScope_by (by decide +kernel)
theorem e_law_drawn : cDef cf_law_drawn (top 17) 40 = c_law_drawn := by decide +kernel
theorem s_law_drawn : FnScope cf_law_drawn.N ["_law_row_here"] (defScope (top 17)) := fnScope_by (by decide +kernel)
theorem e_law_cell_at : cDef cf_law_cell_at (top 13) 40 = c_law_cell_at := by decide +kernel
theorem s_law_cell_at : FnScope cf_law_cell_at.N ["_law_script", "_law_k"] (defScope (top 13)) := fnScope_by (by decide +kernel)
theorem e_law_mixed : cDef cf_law_mixed (top 14) 40 = c_law_mixed := by decide +kernel
theorem s_law_mixed : FnScope cf_law_mixed.N ["_law_cell", "_law_k"] (defScope (top 14)) := fnScope_by (by decide +kernel)
theorem e_law_row : cDef cf_law_row (top 15) 40 = c_law_row := by decide +kernel
theorem s_law_row : FnScope cf_law_row.N ["_law_script", "_law_many"] (defScope (top 15)) := fnScope_by (by decide +kernel)
theorem e_has_hole : cDef cf_has_hole (top 8) 40 = c_has_hole := by decide +kernel
theorem s_has_hole : FnScope cf_has_hole.N ["above", "row"] (defScope (top 8)) := fnScope_by (by decide +kernel)
theorem e_is_row : cDef cf_is_row (top 7) 40 = c_is_row := by decide +kernel
theorem s_is_row : FnScope cf_is_row.N ["row", "wide"] (defScope (top 7)) := fnScope_by (by decide +kernel)
theorem e_rows_of : cDef cf_rows_of (top 9) 40 = c_rows_of := by decide +kernel
theorem s_rows_of : FnScope cf_rows_of.N ["text"] (defScope (top 9)) := fnScope_by (by decide +kernel)
theorem e_letters : cDef cf_letters (top 10) 40 = c_letters := by decide +kernel
theorem s_letters : FnScope cf_letters.N ["text"] (defScope (top 10)) := fnScope_by (by decide +kernel)
theorem e_meetings : cDef cf_meetings (top 11) 40 = c_meetings := by decide +kernel
theorem s_meetings : FnScope cf_meetings.N ["text"] (defScope (top 11)) := fnScope_by (by decide +kernel)
theorem e_law_letters : cDef cf_law_letters (top 18) 40 = c_law_letters := by decide +kernel
theorem s_law_letters : FnScope cf_law_letters.N ["_law_rows"] (defScope (top 18)) := fnScope_by (by decide +kernel)
theorem e_law_meetings : cDef cf_law_meetings (top 19) 40 = c_law_meetings := by decide +kernel
theorem s_law_meetings : FnScope cf_law_meetings.N ["_law_rows"] (defScope (top 19)) := fnScope_by (by decide +kernel)
theorem e_law_right : cDef cf_law_right (top 20) 40 = c_law_right := by decide +kernel
theorem s_law_right : FnScope cf_law_right.N ["_law_rows", "_law_beside"] (defScope (top 20)) := fnScope_by (by decide +kernel)
theorem e_law : cDef cf_law (top 21) 40 = c_law := by decide +kernel
theorem s_law : FnScope cf_law.N ["_law_script"] (defScope (top 21)) := fnScope_by (by decide +kernel)
theorem all_mk {P : Program} {w : World} {K : PySem.W.Frag} {h : Heap} {mg : Str → Option Value} {fa f0 f1 f2 f3 f4 f5 f6 f7 f8 f9 f10 f11 f12 f13 C0 I0 : Addr} (X : K.In h) (G : h.Ns mainGlobals mg) (hfa : mg "law" = some (.ref fa))
    {od0 an0 od1 an1 od2 an2 od3 an3 od4 an4 od5 an5 od6 an6 od7 an7 od8 an8 od9 an9 od10 an10 od11 an11 od12 an12 od13 an13 od14 an14 : Option Addr} {sl0 sl1 sl2 sl3 sl4 sl5 sl6 sl7 sl8 sl9 sl10 sl11 sl12 sl13 sl14 : Array (Option Value)} {oc0 kV0 dc0 pm0 cd0 ct0 oc1 kV1 dc1 pm1 cd1 ct1 oc2 kV2 dc2 pm2 cd2 ct2 oc3 kV3 dc3 pm3 cd3 ct3 oc4 kV4 dc4 pm4 cd4 ct4 oc5 kV5 dc5 pm5 cd5 ct5 oc6 kV6 dc6 pm6 cd6 ct6 oc7 kV7 dc7 pm7 cd7 ct7 oc8 kV8 dc8 pm8 cd8 ct8 oc9 kV9 dc9 pm9 cd9 ct9 oc10 kV10 dc10 pm10 cd10 ct10 oc11 kV11 dc11 pm11 cd11 ct11 oc12 kV12 dc12 pm12 cd12 ct12 oc13 kV13 dc13 pm13 cd13 ct13 oc14 kV14 dc14 pm14 cd14 ct14 : Value} {tk0 tk1 tk2 : Tok}
    (a0 : PySem.W.nsIn K mainGlobals "_law_signs" = some (some (.ref f0)))
    (l0 : K.lookup f0 = some ⟨oc0, od0, .func (PySem.W.fnOf "_law_signs" "_law_signs" (defArgs (top 16)) (defBody (top 16)) (defScope (top 16)) .none kV0 dc0 pm0 an0 cd0 ct0), sl0⟩)
    (c0 : PySem.W.codeIn K cd0 "_law_signs" = true)
    (k0 : PySem.W.keepIn K (.ref f0) = true)
    (a1 : PySem.W.nsIn K mainGlobals "_law_drawn" = some (some (.ref f1)))
    (l1 : K.lookup f1 = some ⟨oc1, od1, .func (PySem.W.fnOf "_law_drawn" "_law_drawn" (defArgs (top 17)) (defBody (top 17)) (defScope (top 17)) .none kV1 dc1 pm1 an1 cd1 ct1), sl1⟩)
    (c1 : PySem.W.codeIn K cd1 "_law_drawn" = true)
    (k1 : PySem.W.keepIn K (.ref f1) = true)
    (a2 : PySem.W.nsIn K mainGlobals "_law_cell_at" = some (some (.ref f2)))
    (l2 : K.lookup f2 = some ⟨oc2, od2, .func (PySem.W.fnOf "_law_cell_at" "_law_cell_at" (defArgs (top 13)) (defBody (top 13)) (defScope (top 13)) .none kV2 dc2 pm2 an2 cd2 ct2), sl2⟩)
    (c2 : PySem.W.codeIn K cd2 "_law_cell_at" = true)
    (k2 : PySem.W.keepIn K (.ref f2) = true)
    (a3 : PySem.W.nsIn K mainGlobals "_law_mixed" = some (some (.ref f3)))
    (l3 : K.lookup f3 = some ⟨oc3, od3, .func (PySem.W.fnOf "_law_mixed" "_law_mixed" (defArgs (top 14)) (defBody (top 14)) (defScope (top 14)) .none kV3 dc3 pm3 an3 cd3 ct3), sl3⟩)
    (c3 : PySem.W.codeIn K cd3 "_law_mixed" = true)
    (k3 : PySem.W.keepIn K (.ref f3) = true)
    (a4 : PySem.W.nsIn K mainGlobals "_law_row" = some (some (.ref f4)))
    (l4 : K.lookup f4 = some ⟨oc4, od4, .func (PySem.W.fnOf "_law_row" "_law_row" (defArgs (top 15)) (defBody (top 15)) (defScope (top 15)) .none kV4 dc4 pm4 an4 cd4 ct4), sl4⟩)
    (c4 : PySem.W.codeIn K cd4 "_law_row" = true)
    (k4 : PySem.W.keepIn K (.ref f4) = true)
    (a5 : PySem.W.nsIn K mainGlobals "has_hole" = some (some (.ref f5)))
    (l5 : K.lookup f5 = some ⟨oc5, od5, .func (PySem.W.fnOf "has_hole" "has_hole" (defArgs (top 8)) (defBody (top 8)) (defScope (top 8)) .none kV5 dc5 pm5 an5 cd5 ct5), sl5⟩)
    (c5 : PySem.W.codeIn K cd5 "has_hole" = true)
    (k5 : PySem.W.keepIn K (.ref f5) = true)
    (a6 : PySem.W.nsIn K mainGlobals "is_row" = some (some (.ref f6)))
    (l6 : K.lookup f6 = some ⟨oc6, od6, .func (PySem.W.fnOf "is_row" "is_row" (defArgs (top 7)) (defBody (top 7)) (defScope (top 7)) .none kV6 dc6 pm6 an6 cd6 ct6), sl6⟩)
    (c6 : PySem.W.codeIn K cd6 "is_row" = true)
    (k6 : PySem.W.keepIn K (.ref f6) = true)
    (a7 : PySem.W.nsIn K mainGlobals "rows_of" = some (some (.ref f7)))
    (l7 : K.lookup f7 = some ⟨oc7, od7, .func (PySem.W.fnOf "rows_of" "rows_of" (defArgs (top 9)) (defBody (top 9)) (defScope (top 9)) .none kV7 dc7 pm7 an7 cd7 ct7), sl7⟩)
    (c7 : PySem.W.codeIn K cd7 "rows_of" = true)
    (k7 : PySem.W.keepIn K (.ref f7) = true)
    (a8 : PySem.W.nsIn K mainGlobals "letters" = some (some (.ref f8)))
    (l8 : K.lookup f8 = some ⟨oc8, od8, .func (PySem.W.fnOf "letters" "letters" (defArgs (top 10)) (defBody (top 10)) (defScope (top 10)) .none kV8 dc8 pm8 an8 cd8 ct8), sl8⟩)
    (c8 : PySem.W.codeIn K cd8 "letters" = true)
    (k8 : PySem.W.keepIn K (.ref f8) = true)
    (a9 : PySem.W.nsIn K mainGlobals "meetings" = some (some (.ref f9)))
    (l9 : K.lookup f9 = some ⟨oc9, od9, .func (PySem.W.fnOf "meetings" "meetings" (defArgs (top 11)) (defBody (top 11)) (defScope (top 11)) .none kV9 dc9 pm9 an9 cd9 ct9), sl9⟩)
    (c9 : PySem.W.codeIn K cd9 "meetings" = true)
    (k9 : PySem.W.keepIn K (.ref f9) = true)
    (a10 : PySem.W.nsIn K mainGlobals "_law_letters" = some (some (.ref f10)))
    (l10 : K.lookup f10 = some ⟨oc10, od10, .func (PySem.W.fnOf "_law_letters" "_law_letters" (defArgs (top 18)) (defBody (top 18)) (defScope (top 18)) .none kV10 dc10 pm10 an10 cd10 ct10), sl10⟩)
    (c10 : PySem.W.codeIn K cd10 "_law_letters" = true)
    (k10 : PySem.W.keepIn K (.ref f10) = true)
    (a11 : PySem.W.nsIn K mainGlobals "_law_meetings" = some (some (.ref f11)))
    (l11 : K.lookup f11 = some ⟨oc11, od11, .func (PySem.W.fnOf "_law_meetings" "_law_meetings" (defArgs (top 19)) (defBody (top 19)) (defScope (top 19)) .none kV11 dc11 pm11 an11 cd11 ct11), sl11⟩)
    (c11 : PySem.W.codeIn K cd11 "_law_meetings" = true)
    (k11 : PySem.W.keepIn K (.ref f11) = true)
    (a12 : PySem.W.nsIn K mainGlobals "_law_right" = some (some (.ref f12)))
    (l12 : K.lookup f12 = some ⟨oc12, od12, .func (PySem.W.fnOf "_law_right" "_law_right" (defArgs (top 20)) (defBody (top 20)) (defScope (top 20)) .none kV12 dc12 pm12 an12 cd12 ct12), sl12⟩)
    (c12 : PySem.W.codeIn K cd12 "_law_right" = true)
    (k12 : PySem.W.keepIn K (.ref f12) = true)
    (a13 : PySem.W.nsIn K mainGlobals "law" = some (some (.ref f13)))
    (l13 : K.lookup f13 = some ⟨oc13, od13, .func (PySem.W.fnOf "law" "law" (defArgs (top 21)) (defBody (top 21)) (defScope (top 21)) .none kV13 dc13 pm13 an13 cd13 ct13), sl13⟩)
    (c13 : PySem.W.codeIn K cd13 "law" = true)
    (k13 : PySem.W.keepIn K (.ref f13) = true)
    (u0 : PySem.W.nsIn K mainGlobals "AIR" = some (some (.str "." tk0)))
    (u1 : PySem.W.nsIn K mainGlobals "MOST" = some (some (.int (40) tk1)))
    (u2 : PySem.W.nsIn K mainGlobals "LETTERS" = some (some (.str "abcdefghijklmnopqrstuvwxyz" tk2)))
    (z0 : PySem.W.nsIn K mainGlobals "range" = some none)
    (z1 : PySem.W.nsIn K mainGlobals "max" = some none)
    (z2 : PySem.W.nsIn K mainGlobals "int" = some none)
    (z3 : PySem.W.nsIn K mainGlobals "len" = some none)
    (z4 : PySem.W.nsIn K mainGlobals "zip" = some none)
    (z5 : PySem.W.nsIn K mainGlobals "all" = some none)
    (z6 : PySem.W.nsIn K mainGlobals "enumerate" = some none)
    (z7 : PySem.W.nsIn K mainGlobals "isinstance" = some none)
    (z8 : PySem.W.nsIn K mainGlobals "str" = some none)
    (z9 : PySem.W.nsIn K mainGlobals "sorted" = some none)
    (z10 : PySem.W.nsIn K mainGlobals "list" = some none)
    (z11 : PySem.W.nsIn K mainGlobals "tuple" = some none)
    (q0 : PySem.W.nsIn K mainGlobals "NoCut" = some (some (.ref C0)))
    (i0 : PySem.W.findIn K (.ref C0) "__init__" = some (some (.ref I0)))
    (j0 : K.lookup I0 = some ⟨oc14, od14, .func (PySem.W.fnOf "__init__" "NoCut.__init__" (defArgs ((clsBody (top 2)).getD 0 (.Pass ⟨0, 0, 0, 0⟩))) (defBody ((clsBody (top 2)).getD 0 (.Pass ⟨0, 0, 0, 0⟩))) (defScope ((clsBody (top 2)).getD 0 (.Pass ⟨0, 0, 0, 0⟩))) .none kV14 dc14 pm14 an14 cd14 ct14), sl14⟩)
    (m0 : PySem.W.codeIn K cd14 "NoCut.__init__" = true)
    (n0 : PySem.W.keepIn K (.ref I0) = true)
    (t0 : PySem.W.typeIn K (.ref I0) = some (.type "function"))
    (w0_0 : PySem.W.findIn K (.ref C0) "row" = some none)
    (o0 : oexB K C0 = true)
    : ∃ fd : FuncData, (∀ (s : Shared) (v : Value), BindsTo s fd ⟨[v], []⟩ [("_law_script", v)]) ∧ ∀ base : Heap, K.In base → base.Ns mainGlobals mg → FnOk P w K mg base (L2.CX P w) 6 fa fd ["_law_script"] (spLaw 63) := by
  have e := hfa.symm.trans (PySem.W.mg_of X G a13)
  cases e
  have LL : ClOk mg [("NoCut", C0)] := clOk_cons (PySem.W.mg_of X G q0) (clOk_nil)
  have T0 := fun_mk (st := (top 16)) l0 c0 k0
  have b0 := T0.binds (ps := ["_law_number", "_law_wild"]) fun _ _ _ _ _ _ us hl => match us, hl with | [_, _], _ => rfl
  have T1 := fun_mk (st := (top 17)) l1 c1 k1
  have b1 := T1.binds (ps := ["_law_row_here"]) fun _ _ _ _ _ _ us hl => match us, hl with | [_], _ => rfl
  have T2 := fun_mk (st := (top 13)) l2 c2 k2
  have b2 := T2.binds (ps := ["_law_script", "_law_k"]) fun _ _ _ _ _ _ us hl => match us, hl with | [_, _], _ => rfl
  have T3 := fun_mk (st := (top 14)) l3 c3 k3
  have b3 := T3.binds (ps := ["_law_cell", "_law_k"]) fun _ _ _ _ _ _ us hl => match us, hl with | [_, _], _ => rfl
  have T4 := fun_mk (st := (top 15)) l4 c4 k4
  have b4 := T4.binds (ps := ["_law_script", "_law_many"]) fun _ _ _ _ _ _ us hl => match us, hl with | [_, _], _ => rfl
  have T5 := fun_mk (st := (top 8)) l5 c5 k5
  have b5 := T5.binds (ps := ["above", "row"]) fun _ _ _ _ _ _ us hl => match us, hl with | [_, _], _ => rfl
  have T6 := fun_mk (st := (top 7)) l6 c6 k6
  have b6 := T6.binds (ps := ["row", "wide"]) fun _ _ _ _ _ _ us hl => match us, hl with | [_, _], _ => rfl
  have T7 := fun_mk (st := (top 9)) l7 c7 k7
  have b7 := T7.binds (ps := ["text"]) fun _ _ _ _ _ _ us hl => match us, hl with | [_], _ => rfl
  have T8 := fun_mk (st := (top 10)) l8 c8 k8
  have b8 := T8.binds (ps := ["text"]) fun _ _ _ _ _ _ us hl => match us, hl with | [_], _ => rfl
  have T9 := fun_mk (st := (top 11)) l9 c9 k9
  have b9 := T9.binds (ps := ["text"]) fun _ _ _ _ _ _ us hl => match us, hl with | [_], _ => rfl
  have T10 := fun_mk (st := (top 18)) l10 c10 k10
  have b10 := T10.binds (ps := ["_law_rows"]) fun _ _ _ _ _ _ us hl => match us, hl with | [_], _ => rfl
  have T11 := fun_mk (st := (top 19)) l11 c11 k11
  have b11 := T11.binds (ps := ["_law_rows"]) fun _ _ _ _ _ _ us hl => match us, hl with | [_], _ => rfl
  have T12 := fun_mk (st := (top 20)) l12 c12 k12
  have b12 := T12.binds (ps := ["_law_rows", "_law_beside"]) fun _ _ _ _ _ _ us hl => match us, hl with | [_, _], _ => rfl
  have T13 := fun_mk (st := (top 21)) l13 c13 k13
  have b13 := T13.binds (ps := ["_law_script"]) fun _ _ _ _ _ _ us hl => match us, hl with | [_], _ => rfl
  have TX0 := fun_mk (st := ((clsBody (top 2)).getD 0 (.Pass ⟨0, 0, 0, 0⟩))) j0 m0 n0
  have bX0 := TX0.binds (ps := ["self", "row"]) fun _ _ _ _ _ _ us hl => match us, hl with | [_, _], _ => rfl
  have X0 : ∀ base : Heap, ExOwn K mg P w base "NoCut" ["row"] := fun base => exOwn1_of (PySem.W.mg_of X G q0) o0 i0 t0 w0_0 TX0 (fnScope_by (by decide +kernel)) rfl rfl bX0
  refine ⟨PySem.W.fnOf "law" "law" (defArgs (top 21)) (defBody (top 21)) (defScope (top 21)) .none kV13 dc13 pm13 an13 cd13 ct13, fun s v => .of_eq rfl, fun base _ _ => ?_⟩
  have F0 : FnOk P w K mg base (L2.CX P w) 1 f0 (PySem.W.fnOf "_law_signs" "_law_signs" (defArgs (top 16)) (defBody (top 16)) (defScope (top 16)) .none kV0 dc0 pm0 an0 cd0 ct0) ["_law_number", "_law_wild"] (spF K mg 2 F_law_signs) := by
    refine def_ok (cf := cf_law_signs) (s := {}) (k := 0) 40 e_law_signs T0 s_law_signs rfl ⟨fun i x h => ?_, fun x c h => ?_, fun x h => ?_, fun x h => ?_, fun x fl h => ?_, fun x h => ?_, fun x tab h => ?_, ?_, ?_, ?_, fun i q h => ?_, fun i x h => ?_⟩ (by decide)
    · match i, h with
      | n + 0, h => cases h
    · cases h
    · cases h
    · cases h
    · cases h
    · cases h
    · cases h
    · exact tabB_of clOk_nil rfl
    · exact xcB_of clOk_nil rfl
    · exact ftB_of clOk_nil rfl
    · cases h
    · cases h
  have F1 : FnOk P w K mg base (L2.CX P w) 2 f1 (PySem.W.fnOf "_law_drawn" "_law_drawn" (defArgs (top 17)) (defBody (top 17)) (defScope (top 17)) .none kV1 dc1 pm1 an1 cd1 ct1) ["_law_row_here"] (spF K mg 1 F_law_drawn) := by
    refine def_ok (cf := cf_law_drawn) (s := { fs := [(2, F_law_signs)] }) (k := 1) 40 e_law_drawn T1 s_law_drawn rfl ⟨fun i x h => ?_, fun x c h => ?_, fun x h => ?_, fun x h => ?_, fun x fl h => ?_, fun x h => ?_, fun x tab h => ?_, ?_, ?_, ?_, fun i q h => ?_, fun i x h => ?_⟩ (by decide)
    · match i, h with
      | 0, h => cases h; exact ⟨_, _, rfl, fn_mk (F0.mono (by decide)) (PySem.W.mg_of X G a0) k0 b0⟩
      | n + 1, h => cases h
    · cases h
    · skip
      simp only [cf_law_drawn, List.mem_cons, List.not_mem_nil, or_false, Prod.mk.injEq] at h
      rcases h with rfl | rfl | rfl
      · exact PySem.W.mg_none_of X G z0
      · exact PySem.W.mg_none_of X G z1
      · exact PySem.W.mg_none_of X G z2
    · cases h
    · cases h
    · cases h
    · cases h
    · exact tabB_of clOk_nil rfl
    · exact xcB_of clOk_nil rfl
    · exact ftB_of clOk_nil rfl
    · cases h
    · cases h
  have F2 : FnOk P w K mg base (L2.CX P w) 1 f2 (PySem.W.fnOf "_law_cell_at" "_law_cell_at" (defArgs (top 13)) (defBody (top 13)) (defScope (top 13)) .none kV2 dc2 pm2 an2 cd2 ct2) ["_law_script", "_law_k"] (spF K mg 2 F_law_cell_at) := by
    refine def_ok (cf := cf_law_cell_at) (s := {}) (k := 0) 40 e_law_cell_at T2 s_law_cell_at rfl ⟨fun i x h => ?_, fun x c h => ?_, fun x h => ?_, fun x h => ?_, fun x fl h => ?_, fun x h => ?_, fun x tab h => ?_, ?_, ?_, ?_, fun i q h => ?_, fun i x h => ?_⟩ (by decide)
    · match i, h with
      | n + 0, h => cases h
    · cases h
    · skip
      simp only [cf_law_cell_at, List.mem_cons, List.not_mem_nil, or_false, Prod.mk.injEq] at h
      rcases h with rfl
      · exact PySem.W.mg_none_of X G z3
    · cases h
    · cases h
    · cases h
    · cases h
    · exact tabB_of clOk_nil rfl
    · exact xcB_of clOk_nil rfl
    · exact ftB_of clOk_nil rfl
    · cases h
    · cases h
  have F3 : FnOk P w K mg base (L2.CX P w) 1 f3 (PySem.W.fnOf "_law_mixed" "_law_mixed" (defArgs (top 14)) (defBody (top 14)) (defScope (top 14)) .none kV3 dc3 pm3 an3 cd3 ct3) ["_law_cell", "_law_k"] (spF K mg 2 F_law_mixed) := by
    refine def_ok (cf := cf_law_mixed) (s := {}) (k := 0) 40 e_law_mixed T3 s_law_mixed rfl ⟨fun i x h => ?_, fun x c h => ?_, fun x h => ?_, fun x h => ?_, fun x fl h => ?_, fun x h => ?_, fun x tab h => ?_, ?_, ?_, ?_, fun i q h => ?_, fun i x h => ?_⟩ (by decide)
    · match i, h with
      | n + 0, h => cases h
    · cases h
    · cases h
    · cases h
    · cases h
    · cases h
    · cases h
    · exact tabB_of clOk_nil rfl
    · exact xcB_of clOk_nil rfl
    · exact ftB_of clOk_nil rfl
    · cases h
    · cases h
  have F4 : FnOk P w K mg base (L2.CX P w) 2 f4 (PySem.W.fnOf "_law_row" "_law_row" (defArgs (top 15)) (defBody (top 15)) (defScope (top 15)) .none kV4 dc4 pm4 an4 cd4 ct4) ["_law_script", "_law_many"] (spF K mg 2 F_law_row) := by
    refine def_ok (cf := cf_law_row) (s := { fs := [(2, F_law_cell_at), (2, F_law_mixed)] }) (k := 1) 40 e_law_row T4 s_law_row rfl ⟨fun i x h => ?_, fun x c h => ?_, fun x h => ?_, fun x h => ?_, fun x fl h => ?_, fun x h => ?_, fun x tab h => ?_, ?_, ?_, ?_, fun i q h => ?_, fun i x h => ?_⟩ (by decide)
    · match i, h with
      | 0, h => cases h; exact ⟨_, _, rfl, fn_mk (F2.mono (by decide)) (PySem.W.mg_of X G a2) k2 b2⟩
      | 1, h => cases h; exact ⟨_, _, rfl, fn_mk (F3.mono (by decide)) (PySem.W.mg_of X G a3) k3 b3⟩
      | n + 2, h => cases h
    · cases h
    · skip
      simp only [cf_law_row, List.mem_cons, List.not_mem_nil, or_false, Prod.mk.injEq] at h
      rcases h with rfl | rfl | rfl
      · exact PySem.W.mg_none_of X G z0
      · exact PySem.W.mg_none_of X G z1
      · exact PySem.W.mg_none_of X G z3
    · cases h
    · cases h
    · cases h
    · cases h
    · exact tabB_of clOk_nil rfl
    · exact xcB_of clOk_nil rfl
    · exact ftB_of clOk_nil rfl
    · cases h
    · cases h
  have F5 : FnOk P w K mg base (L2.CX P w) 1 f5 (PySem.W.fnOf "has_hole" "has_hole" (defArgs (top 8)) (defBody (top 8)) (defScope (top 8)) .none kV5 dc5 pm5 an5 cd5 ct5) ["above", "row"] (spF K mg 2 F_has_hole) := by
    refine def_ok (cf := cf_has_hole) (s := {}) (k := 0) 40 e_has_hole T5 s_has_hole rfl ⟨fun i x h => ?_, fun x c h => ?_, fun x h => ?_, fun x h => ?_, fun x fl h => ?_, fun x h => ?_, fun x tab h => ?_, ?_, ?_, ?_, fun i q h => ?_, fun i x h => ?_⟩ (by decide)
    · match i, h with
      | n + 0, h => cases h
    · have h := mem_lk h
      simp only [cf_has_hole, List.mem_cons, List.not_mem_nil, or_false, Prod.mk.injEq] at h
      rcases h with ⟨rfl, rfl⟩
      · exact ⟨V.str ".", _, rfl, PySem.W.mg_of X G u0, ⟨tk0, rfl⟩⟩
    · skip
      simp only [cf_has_hole, List.mem_cons, List.not_mem_nil, or_false, Prod.mk.injEq] at h
      rcases h with rfl
      · exact PySem.W.mg_none_of X G z4
    · cases h
    · cases h
    · cases h
    · cases h
    · exact tabB_of clOk_nil rfl
    · exact xcB_of clOk_nil rfl
    · exact ftB_of clOk_nil rfl
    · cases h
    · cases h
  have F6 : FnOk P w K mg base (L2.CX P w) 1 f6 (PySem.W.fnOf "is_row" "is_row" (defArgs (top 7)) (defBody (top 7)) (defScope (top 7)) .none kV6 dc6 pm6 an6 cd6 ct6) ["row", "wide"] (spF K mg 2 F_is_row) := by
    refine def_ok (cf := cf_is_row) (s := {}) (k := 0) 40 e_is_row T6 s_is_row rfl ⟨fun i x h => ?_, fun x c h => ?_, fun x h => ?_, fun x h => ?_, fun x fl h => ?_, fun x h => ?_, fun x tab h => ?_, ?_, ?_, ?_, fun i q h => ?_, fun i x h => ?_⟩ (by decide)
    · match i, h with
      | n + 0, h => cases h
    · have h := mem_lk h
      simp only [cf_is_row, List.mem_cons, List.not_mem_nil, or_false, Prod.mk.injEq] at h
      rcases h with ⟨rfl, rfl⟩ | ⟨rfl, rfl⟩ | ⟨rfl, rfl⟩
      · exact ⟨V.int (40), _, rfl, PySem.W.mg_of X G u1, ⟨tk1, rfl⟩⟩
      · exact ⟨V.str "abcdefghijklmnopqrstuvwxyz", _, rfl, PySem.W.mg_of X G u2, ⟨tk2, rfl⟩⟩
      · exact ⟨V.str ".", _, rfl, PySem.W.mg_of X G u0, ⟨tk0, rfl⟩⟩
    · skip
      simp only [cf_is_row, List.mem_cons, List.not_mem_nil, or_false, Prod.mk.injEq] at h
      rcases h with rfl | rfl
      · exact PySem.W.mg_none_of X G z5
      · exact PySem.W.mg_none_of X G z3
    · cases h
    · cases h
    · cases h
    · cases h
    · exact tabB_of clOk_nil rfl
    · exact xcB_of clOk_nil rfl
    · exact ftB_of clOk_nil rfl
    · cases h
    · cases h
  have F7 : FnOk P w K mg base (L2.CX P w) 3 f7 (PySem.W.fnOf "rows_of" "rows_of" (defArgs (top 9)) (defBody (top 9)) (defScope (top 9)) .none kV7 dc7 pm7 an7 cd7 ct7) ["text"] (spF K mg 1 F_rows_of) := by
    refine def_ok (cf := cf_rows_of) (s := { fs := [(2, F_has_hole), (2, F_is_row)] }) (k := 2) 40 e_rows_of T7 s_rows_of rfl ⟨fun i x h => ?_, fun x c h => ?_, fun x h => ?_, fun x h => ?_, fun x fl h => ?_, fun x h => ?_, fun x tab h => ?_, ?_, ?_, ?_, fun i q h => ?_, fun i x h => ?_⟩ (by decide)
    · match i, h with
      | 0, h => cases h; exact ⟨_, _, rfl, fn_mk (F5.mono (by decide)) (PySem.W.mg_of X G a5) k5 b5⟩
      | 1, h => cases h; exact ⟨_, _, rfl, fn_mk (F6.mono (by decide)) (PySem.W.mg_of X G a6) k6 b6⟩
      | n + 2, h => cases h
    · have h := mem_lk h
      simp only [cf_rows_of, List.mem_cons, List.not_mem_nil, or_false, Prod.mk.injEq] at h
      rcases h with ⟨rfl, rfl⟩ | ⟨rfl, rfl⟩
      · exact ⟨V.int (40), _, rfl, PySem.W.mg_of X G u1, ⟨tk1, rfl⟩⟩
      · exact ⟨V.str ".", _, rfl, PySem.W.mg_of X G u0, ⟨tk0, rfl⟩⟩
    · skip
      simp only [cf_rows_of, List.mem_cons, List.not_mem_nil, or_false, Prod.mk.injEq] at h
      rcases h with rfl | rfl | rfl | rfl | rfl
      · exact PySem.W.mg_none_of X G z6
      · exact PySem.W.mg_none_of X G z5
      · exact PySem.W.mg_none_of X G z7
      · exact PySem.W.mg_none_of X G z8
      · exact PySem.W.mg_none_of X G z3
    · cases h
    · have h := mem_lk h
      simp only [cf_rows_of, List.mem_cons, List.not_mem_nil, or_false, Prod.mk.injEq] at h
      rcases h with ⟨rfl, rfl⟩
      · exact ⟨by decide, X0 base⟩
    · cases h
    · cases h
    · exact tabB_of clOk_nil rfl
    · exact xcB_of clOk_nil rfl
    · exact ftB_of clOk_nil rfl
    · cases h
    · cases h
  have F8 : FnOk P w K mg base (L2.CX P w) 4 f8 (PySem.W.fnOf "letters" "letters" (defArgs (top 10)) (defBody (top 10)) (defScope (top 10)) .none kV8 dc8 pm8 an8 cd8 ct8) ["text"] (spF K mg 1 F_letters) := by
    refine def_ok (cf := cf_letters) (s := { fs := [(1, F_rows_of)] }) (k := 3) 40 e_letters T8 s_letters rfl ⟨fun i x h => ?_, fun x c h => ?_, fun x h => ?_, fun x h => ?_, fun x fl h => ?_, fun x h => ?_, fun x tab h => ?_, ?_, ?_, ?_, fun i q h => ?_, fun i x h => ?_⟩ (by decide)
    · match i, h with
      | 0, h => cases h; exact ⟨_, _, rfl, fn_mk (F7.mono (by decide)) (PySem.W.mg_of X G a7) k7 b7⟩
      | n + 1, h => cases h
    · have h := mem_lk h
      simp only [cf_letters, List.mem_cons, List.not_mem_nil, or_false, Prod.mk.injEq] at h
      rcases h with ⟨rfl, rfl⟩
      · exact ⟨V.str ".", _, rfl, PySem.W.mg_of X G u0, ⟨tk0, rfl⟩⟩
    · skip
      simp only [cf_letters, List.mem_cons, List.not_mem_nil, or_false, Prod.mk.injEq] at h
      rcases h with rfl
      · exact PySem.W.mg_none_of X G z9
    · cases h
    · cases h
    · cases h
    · cases h
    · exact tabB_of clOk_nil rfl
    · exact xcB_of clOk_nil rfl
    · exact ftB_of clOk_nil rfl
    · cases h
    · cases h
  have F9 : FnOk P w K mg base (L2.CX P w) 4 f9 (PySem.W.fnOf "meetings" "meetings" (defArgs (top 11)) (defBody (top 11)) (defScope (top 11)) .none kV9 dc9 pm9 an9 cd9 ct9) ["text"] (spF K mg 1 F_meetings) := by
    refine def_ok (cf := cf_meetings) (s := { fs := [(1, F_rows_of)] }) (k := 3) 40 e_meetings T9 s_meetings rfl ⟨fun i x h => ?_, fun x c h => ?_, fun x h => ?_, fun x h => ?_, fun x fl h => ?_, fun x h => ?_, fun x tab h => ?_, ?_, ?_, ?_, fun i q h => ?_, fun i x h => ?_⟩ (by decide)
    · match i, h with
      | 0, h => cases h; exact ⟨_, _, rfl, fn_mk (F7.mono (by decide)) (PySem.W.mg_of X G a7) k7 b7⟩
      | n + 1, h => cases h
    · have h := mem_lk h
      simp only [cf_meetings, List.mem_cons, List.not_mem_nil, or_false, Prod.mk.injEq] at h
      rcases h with ⟨rfl, rfl⟩
      · exact ⟨V.str ".", _, rfl, PySem.W.mg_of X G u0, ⟨tk0, rfl⟩⟩
    · skip
      simp only [cf_meetings, List.mem_cons, List.not_mem_nil, or_false, Prod.mk.injEq] at h
      rcases h with rfl | rfl
      · exact PySem.W.mg_none_of X G z4
      · exact PySem.W.mg_none_of X G z9
    · cases h
    · cases h
    · cases h
    · cases h
    · exact tabB_of clOk_nil rfl
    · exact xcB_of clOk_nil rfl
    · exact ftB_of clOk_nil rfl
    · cases h
    · cases h
  have F10 : FnOk P w K mg base (L2.CX P w) 1 f10 (PySem.W.fnOf "_law_letters" "_law_letters" (defArgs (top 18)) (defBody (top 18)) (defScope (top 18)) .none kV10 dc10 pm10 an10 cd10 ct10) ["_law_rows"] (spF K mg 1 F_law_letters) := by
    refine def_ok (cf := cf_law_letters) (s := {}) (k := 0) 40 e_law_letters T10 s_law_letters rfl ⟨fun i x h => ?_, fun x c h => ?_, fun x h => ?_, fun x h => ?_, fun x fl h => ?_, fun x h => ?_, fun x tab h => ?_, ?_, ?_, ?_, fun i q h => ?_, fun i x h => ?_⟩ (by decide)
    · match i, h with
      | n + 0, h => cases h
    · cases h
    · cases h
    · cases h
    · cases h
    · cases h
    · cases h
    · exact tabB_of clOk_nil rfl
    · exact xcB_of clOk_nil rfl
    · exact ftB_of clOk_nil rfl
    · cases h
    · cases h
  have F11 : FnOk P w K mg base (L2.CX P w) 1 f11 (PySem.W.fnOf "_law_meetings" "_law_meetings" (defArgs (top 19)) (defBody (top 19)) (defScope (top 19)) .none kV11 dc11 pm11 an11 cd11 ct11) ["_law_rows"] (spF K mg 1 F_law_meetings) := by
    refine def_ok (cf := cf_law_meetings) (s := {}) (k := 0) 40 e_law_meetings T11 s_law_meetings rfl ⟨fun i x h => ?_, fun x c h => ?_, fun x h => ?_, fun x h => ?_, fun x fl h => ?_, fun x h => ?_, fun x tab h => ?_, ?_, ?_, ?_, fun i q h => ?_, fun i x h => ?_⟩ (by decide)
    · match i, h with
      | n + 0, h => cases h
    · cases h
    · skip
      simp only [cf_law_meetings, List.mem_cons, List.not_mem_nil, or_false, Prod.mk.injEq] at h
      rcases h with rfl | rfl | rfl
      · exact PySem.W.mg_none_of X G z0
      · exact PySem.W.mg_none_of X G z9
      · exact PySem.W.mg_none_of X G z3
    · cases h
    · cases h
    · cases h
    · cases h
    · exact tabB_of clOk_nil rfl
    · exact xcB_of clOk_nil rfl
    · exact ftB_of clOk_nil rfl
    · cases h
    · cases h
  have F12 : FnOk P w K mg base (L2.CX P w) 5 f12 (PySem.W.fnOf "_law_right" "_law_right" (defArgs (top 20)) (defBody (top 20)) (defScope (top 20)) .none kV12 dc12 pm12 an12 cd12 ct12) ["_law_rows", "_law_beside"] (spF K mg 2 F_law_right) := by
    refine def_ok (cf := cf_law_right) (s := { fs := [(1, F_letters), (1, F_meetings), (1, F_law_letters), (1, F_law_meetings)] }) (k := 4) 40 e_law_right T12 s_law_right rfl ⟨fun i x h => ?_, fun x c h => ?_, fun x h => ?_, fun x h => ?_, fun x fl h => ?_, fun x h => ?_, fun x tab h => ?_, ?_, ?_, ?_, fun i q h => ?_, fun i x h => ?_⟩ (by decide)
    · match i, h with
      | 0, h => cases h; exact ⟨_, _, rfl, fn_mk (F8.mono (by decide)) (PySem.W.mg_of X G a8) k8 b8⟩
      | 1, h => cases h; exact ⟨_, _, rfl, fn_mk (F9.mono (by decide)) (PySem.W.mg_of X G a9) k9 b9⟩
      | 2, h => cases h; exact ⟨_, _, rfl, fn_mk (F10.mono (by decide)) (PySem.W.mg_of X G a10) k10 b10⟩
      | 3, h => cases h; exact ⟨_, _, rfl, fn_mk (F11.mono (by decide)) (PySem.W.mg_of X G a11) k11 b11⟩
      | n + 4, h => cases h
    · cases h
    · skip
      simp only [cf_law_right, List.mem_cons, List.not_mem_nil, or_false, Prod.mk.injEq] at h
      rcases h with rfl | rfl | rfl
      · exact PySem.W.mg_none_of X G z7
      · exact PySem.W.mg_none_of X G z10
      · exact PySem.W.mg_none_of X G z11
    · cases h
    · cases h
    · cases h
    · cases h
    · exact tabB_of clOk_nil rfl
    · exact xcB_of clOk_nil rfl
    · exact ftB_of clOk_nil rfl
    · cases h
    · cases h
  have F13 : FnOk P w K mg base (L2.CX P w) 6 fa (PySem.W.fnOf "law" "law" (defArgs (top 21)) (defBody (top 21)) (defScope (top 21)) .none kV13 dc13 pm13 an13 cd13 ct13) ["_law_script"] (spF K mg 1 F_law) := by
    refine def_ok (cf := cf_law) (s := { fs := [(1, F_law_drawn), (2, F_law_row), (2, F_law_right)] }) (k := 5) 40 e_law T13 s_law rfl ⟨fun i x h => ?_, fun x c h => ?_, fun x h => ?_, fun x h => ?_, fun x fl h => ?_, fun x h => ?_, fun x tab h => ?_, ?_, ?_, ?_, fun i q h => ?_, fun i x h => ?_⟩ (by decide)
    · match i, h with
      | 0, h => cases h; exact ⟨_, _, rfl, fn_mk (F1.mono (by decide)) (PySem.W.mg_of X G a1) k1 b1⟩
      | 1, h => cases h; exact ⟨_, _, rfl, fn_mk (F4.mono (by decide)) (PySem.W.mg_of X G a4) k4 b4⟩
      | 2, h => cases h; exact ⟨_, _, rfl, fn_mk (F12.mono (by decide)) (PySem.W.mg_of X G a12) k12 b12⟩
      | n + 3, h => cases h
    · cases h
    · cases h
    · cases h
    · cases h
    · cases h
    · cases h
    · exact tabB_of clOk_nil rfl
    · exact xcB_of clOk_nil rfl
    · exact ftB_of clOk_nil rfl
    · cases h
    · cases h
  exact law_imp F13 fun ns hl hb => law_ok ns hl
end L
open PySem PySem.W PyProof.Rows
set_option maxRecDepth 100000 in
set_option maxHeartbeats 0 in
theorem PySem.Challenge.cw_digbook_k04_letters_and_meetings_holds : PySem.Challenge.rw_digbook_k04_letters_and_meetings.Holds := by
  w_on; o_law; k_head; (case hw => w_witness2)
  k_fill
  refine DG.walk (l := PySem.Challenge.rw_digbook_k04_letters_and_meetings) (n := 63) (k := 6) (x := "_law_script") rfl (by decide) rfl ⟨rfl, by decide, by decide⟩ (fun w h Y => PySem.W.kIn_of Y) (fun w => ?NL) ?F
  case NL => rfl
  case F =>
    intro w mg fa h KX G hmg
    refine' L.all_mk KX G hmg ?a0 ?l0 ?c0 ?k0 ?a1 ?l1 ?c1 ?k1 ?a2 ?l2 ?c2 ?k2 ?a3 ?l3 ?c3 ?k3 ?a4 ?l4 ?c4 ?k4 ?a5 ?l5 ?c5 ?k5 ?a6 ?l6 ?c6 ?k6 ?a7 ?l7 ?c7 ?k7 ?a8 ?l8 ?c8 ?k8 ?a9 ?l9 ?c9 ?k9 ?a10 ?l10 ?c10 ?k10 ?a11 ?l11 ?c11 ?k11 ?a12 ?l12 ?c12 ?k12 ?a13 ?l13 ?c13 ?k13 ?u0 ?u1 ?u2 ?z0 ?z1 ?z2 ?z3 ?z4 ?z5 ?z6 ?z7 ?z8 ?z9 ?z10 ?z11 ?q0 ?i0 ?j0 ?m0 ?n0 ?t0 ?w0_0 ?o0
    (case a0 => k_is)
    (case l0 => k_is)
    (case c0 => k_is)
    (case k0 => k_is)
    (case a1 => k_is)
    (case l1 => k_is)
    (case c1 => k_is)
    (case k1 => k_is)
    (case a2 => k_is)
    (case l2 => k_is)
    (case c2 => k_is)
    (case k2 => k_is)
    (case a3 => k_is)
    (case l3 => k_is)
    (case c3 => k_is)
    (case k3 => k_is)
    (case a4 => k_is)
    (case l4 => k_is)
    (case c4 => k_is)
    (case k4 => k_is)
    (case a5 => k_is)
    (case l5 => k_is)
    (case c5 => k_is)
    (case k5 => k_is)
    (case a6 => k_is)
    (case l6 => k_is)
    (case c6 => k_is)
    (case k6 => k_is)
    (case a7 => k_is)
    (case l7 => k_is)
    (case c7 => k_is)
    (case k7 => k_is)
    (case a8 => k_is)
    (case l8 => k_is)
    (case c8 => k_is)
    (case k8 => k_is)
    (case a9 => k_is)
    (case l9 => k_is)
    (case c9 => k_is)
    (case k9 => k_is)
    (case a10 => k_is)
    (case l10 => k_is)
    (case c10 => k_is)
    (case k10 => k_is)
    (case a11 => k_is)
    (case l11 => k_is)
    (case c11 => k_is)
    (case k11 => k_is)
    (case a12 => k_is)
    (case l12 => k_is)
    (case c12 => k_is)
    (case k12 => k_is)
    (case a13 => k_is)
    (case l13 => k_is)
    (case c13 => k_is)
    (case k13 => k_is)
    (case u0 => k_is)
    (case u1 => k_is)
    (case u2 => k_is)
    (case z0 => k_is)
    (case z1 => k_is)
    (case z2 => k_is)
    (case z3 => k_is)
    (case z4 => k_is)
    (case z5 => k_is)
    (case z6 => k_is)
    (case z7 => k_is)
    (case z8 => k_is)
    (case z9 => k_is)
    (case z10 => k_is)
    (case z11 => k_is)
    (case q0 => k_is)
    (case i0 => k_is)
    (case j0 => k_is)
    (case m0 => k_is)
    (case n0 => k_is)
    (case t0 => k_is)
    (case w0_0 => k_is)
    (case o0 => rfl)

