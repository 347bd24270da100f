import PyProof.Rows.All
import Wide.All
import OpenK.AllK
import Wide.FinOn
import HandS.ForMost
import HandS.ForExc
import HandS.IsInst
import HandS.CallSlots
import HandS.ExcOwn
import HandS.Words
import HandS.Deep
import HandS.List
import HandS.Dict
import HandS.Text
import HandS.Flow
import HandS.Replace
import HandS.RaiseMore
import HandS.EndBits
import PySem.Challenge.RW_digbook_k01_names
set_option Elab.async false
set_option linter.all false
set_option maxHeartbeats 4000000
/-! DGa: data of the little Python (D), with marks of ownership; what stands in the abstract heap for it. -/
namespace DG
open PySem PySem.Spec PyProof.Rows L2
/-- own: this place alone refers to it; fr: frozen in this frame, made in it; sh: frozen; ro: lent by the caller; lk: own, locked while a loop walks it -/
inductive Fl where
  | own | fr | sh | ro | lk (n : Nat)
  deriving DecidableEq, Repr
inductive D where
  | non | bl (b : Bool) | int (i : Int) | str (x : Str)
  | tup (ds : List D)
  | lst (f : Fl) (ds : List D)
  | dk (f : Fl) (ks : List (Key × D))
  | dt (f : Fl) (ks : List (List Key × D))
  | ins (f : Fl) (c : Str) (fs : List (Str × D))
  | exc (f : Fl) (c : Str) (fs : List (Str × D))
  | fn (n : Str)
  | ty (n : String)
/-! ### marks changed, marks looked at -/
mutual
def mapF (g : Fl → Fl) : D → D
  | .non => .non | .bl b => .bl b | .int i => .int i | .str x => .str x
  | .tup ds => .tup (mapFL g ds)
  | .lst f ds => .lst (g f) (mapFL g ds)
  | .dk f ks => .dk (g f) (mapFK g ks)
  | .dt f ks => .dt (g f) (mapFT g ks)
  | .ins f c fs => .ins (g f) c (mapFS g fs)
  | .exc f c fs => .exc (g f) c (mapFS g fs)
  | .fn n => .fn n
  | .ty n => .ty n
def mapFL (g : Fl → Fl) : List D → List D
  | [] => [] | d :: r => mapF g d :: mapFL g r
def mapFK (g : Fl → Fl) : List (Key × D) → List (Key × D)
  | [] => [] | (k, d) :: r => (k, mapF g d) :: mapFK g r
def mapFT (g : Fl → Fl) : List (List Key × D) → List (List Key × D)
  | [] => [] | (k, d) :: r => (k, mapF g d) :: mapFT g r
def mapFS (g : Fl → Fl) : List (Str × D) → List (Str × D)
  | [] => [] | (k, d) :: r => (k, mapF g d) :: mapFS g r
end
mutual
/-- all marks are so -/
def allF (p : Fl → Bool) : D → Bool
  | .non => true | .bl _ => true | .int _ => true | .str _ => true
  | .tup ds => allFL p ds
  | .lst f ds => p f && allFL p ds
  | .dk f ks => p f && allFK p ks
  | .dt f ks => p f && allFT p ks
  | .ins f c fs => p f && allFS p fs
  | .exc f c fs => p f && allFS p fs
  | .fn _ => true
  | .ty _ => true
def allFL (p : Fl → Bool) : List D → Bool
  | [] => true | d :: r => allF p d && allFL p r
def allFK (p : Fl → Bool) : List (Key × D) → Bool
  | [] => true | (_, d) :: r => allF p d && allFK p r
def allFT (p : Fl → Bool) : List (List Key × D) → Bool
  | [] => true | (_, d) :: r => allF p d && allFT p r
def allFS (p : Fl → Bool) : List (Str × D) → Bool
  | [] => true | (_, d) :: r => allF p d && allFS p r
end
/-- nothing in it may change -/
abbrev imm (d : D) : Bool := allF (fun _ => false) d
def noLk : Fl → Bool | .lk _ => false | _ => true
def shF (io : Bool) : Fl → Fl | .own => if io then .sh else .fr | f => f
abbrev share (io : Bool) : D → D := mapF (shF io)
abbrev lend : D → D := mapF (fun _ => .ro)

mutual
theorem mapF_imm (g : Fl → Fl) : ∀ d : D, imm d = true → mapF g d = d
  | .non, _ => rfl | .bl _, _ => rfl | .int _, _ => rfl | .str _, _ => rfl
  | .tup ds, h => by rw [mapF, mapFL_imm g ds h]
  | .lst _ _, h => by simp [imm, allF] at h
  | .dk _ _, h => by simp [imm, allF] at h
  | .dt _ _, h => by simp [imm, allF] at h
  | .ins _ _ _, h => by simp [imm, allF] at h
  | .exc _ _ _, h => by simp [imm, allF] at h
  | .fn _, _ => rfl
  | .ty _, _ => rfl
theorem mapFL_imm (g : Fl → Fl) : ∀ ds : List D, allFL (fun _ => false) ds = true → mapFL g ds = ds
  | [], _ => rfl
  | d :: r, h => by
    simp only [allFL, Bool.and_eq_true] at h
    rw [mapFL, mapF_imm g d h.1, mapFL_imm g r h.2]
end

/-! ### what stands for it -/
structure Zo where
  K : PySem.W.Frag
  gm : Str → Option Value
  S : Addr → Prop
  R : Addr → Prop
  H0 : Hp
  lk : List Addr
def At (H : Hp) (f : Fl) (a : Addr) (u : HO) : Prop := match f with
  | .own => H a = some u
  | .lk _ => H a = some u
  | _ => Rd H a u
def FlA : Fl → Addr → List Addr
  | .own, a => [a]
  | .lk _, a => [a]
  | _, _ => []
def FlOk (z : Zo) (a : Addr) : Fl → Prop
  | .own => a ∉ z.lk
  | .lk n => z.lk[n]? = some a
  | .fr => z.S a ∧ z.H0 a = none
  | .sh => z.S a
  | .ro => z.R a
inductive Sg where
  | v (v : V) (d : D)
  | l (xs : List V) (ds : List D)
  | k (ks : List (Key × V)) (es : List (Key × D))
  | t (ks : List (List Key × V)) (es : List (List Key × D))
  | s (fs : List (Str × V)) (es : List (Str × D))
/-- a tuple: tracked, or of the written part (then without what may change) -/
def TupAt (K : PySem.W.Frag) (H : Hp) (a : Addr) (xs : List V) (ds : List D) : Prop := Rd H a (.tup xs)
/-- the value v stands for d; A: the addresses that are its own -/
inductive Rp (z : Zo) (H : Hp) : Sg → List Addr → Prop
  | non : Rp z H (.v .non .non) []
  | bl (b : Bool) : Rp z H (.v (.bl b) (.bl b)) []
  | int (i : Int) : Rp z H (.v (.int i) (.int i)) []
  | str (x : Str) : Rp z H (.v (.str x) (.str x)) []
  | ty (n : String) : Rp z H (.v (.ty n) (.ty n)) []
  | fn {n : Str} {a : Addr} : z.gm n = some (.ref a) → Rp z H (.v (.ref a) (.fn n)) []
  | tup {a : Addr} {xs : List V} {ds : List D} {A : List Addr} : TupAt z.K H a xs ds → Rp z H (.l xs ds) A → Rp z H (.v (.ref a) (.tup ds)) A
  | lst {f : Fl} {a : Addr} {xs : List V} {ds : List D} {A : List Addr} : At H f a (.lst xs) → FlOk z a f → Rp z H (.l xs ds) A → Rp z H (.v (.ref a) (.lst f ds)) (FlA f a ++ A)
  | dk {f : Fl} {a : Addr} {ks : List (Key × V)} {es : List (Key × D)} {A : List Addr} : At H f a (.dK ks) → FlOk z a f → (es.map (·.1)).Nodup → Rp z H (.k ks es) A → Rp z H (.v (.ref a) (.dk f es)) (FlA f a ++ A)
  | dt {f : Fl} {a : Addr} {ks : List (List Key × V)} {es : List (List Key × D)} {A : List Addr} : At H f a (.dT ks) → FlOk z a f → (es.map (·.1)).Nodup → Rp z H (.t ks es) A → Rp z H (.v (.ref a) (.dt f es)) (FlA f a ++ A)
  | ins {f : Fl} {a C dx : Addr} {c : Str} {fs : List (Str × V)} {es : List (Str × D)} {A : List Addr} : At H f a (.ins C dx fs) → FlOk z a f → z.gm c = some (.ref C) → Rp z H (.s fs es) A → Rp z H (.v (.ref a) (.ins f c es)) (FlA f a ++ A)
  | nil : Rp z H (.l [] []) []
  | cons {v : V} {d : D} {vs : List V} {ds : List D} {A B : List Addr} : Rp z H (.v v d) A → Rp z H (.l vs ds) B → Rp z H (.l (v :: vs) (d :: ds)) (A ++ B)
  | knil : Rp z H (.k [] []) []
  | kcons {k : Key} {v : V} {d : D} {vs : List (Key × V)} {ds : List (Key × D)} {A B : List Addr} : Rp z H (.v v d) A → Rp z H (.k vs ds) B → Rp z H (.k ((k, v) :: vs) ((k, d) :: ds)) (A ++ B)
  | tnil : Rp z H (.t [] []) []
  | tcons {k : List Key} {v : V} {d : D} {vs : List (List Key × V)} {ds : List (List Key × D)} {A B : List Addr} : Rp z H (.v v d) A → Rp z H (.t vs ds) B → Rp z H (.t ((k, v) :: vs) ((k, d) :: ds)) (A ++ B)
  | snil : Rp z H (.s [] []) []
  | scons {k : Str} {v : V} {d : D} {vs : List (Str × V)} {ds : List (Str × D)} {A B : List Addr} : Rp z H (.v v d) A → Rp z H (.s vs ds) B → Rp z H (.s ((k, v) :: vs) ((k, d) :: ds)) (A ++ B)

theorem At.rd {H : Hp} {f : Fl} {a : Addr} {u : HO} (h : At H f a u) : Rd H a u := by
  cases f
  · exact .inl h
  · exact h
  · exact h
  · exact h
  · exact .inl h
/-- what a zone must keep for what stands in it -/
structure ZLe (z z' : Zo) : Prop where
  K : z'.K = z.K
  gm : z'.gm = z.gm
  S : ∀ a, z.S a → z'.S a
  R : ∀ a, z.R a → z'.R a
  H0 : ∀ a, z.S a → z.H0 a = none → z'.H0 a = none
  lk : z'.lk = z.lk
theorem ZLe.refl (z : Zo) : ZLe z z := ⟨rfl, rfl, fun _ h => h, fun _ h => h, fun _ _ h => h, rfl⟩
theorem FlOk.mono {z z' : Zo} (k : ZLe z z') {a : Addr} {f : Fl} (h : FlOk z a f) : FlOk z' a f := by
  cases f with
  | own => show a ∉ z'.lk; rw [k.lk]; exact h
  | fr => exact ⟨k.S _ h.1, k.H0 _ h.1 h.2⟩
  | sh => exact k.S _ h
  | ro => exact k.R _ h
  | lk n => show z'.lk[n]? = some a; rw [k.lk]; exact h
theorem SqT.mono {K : PySem.W.Frag} {H H' : Hp} {a : Addr} {xs : List V} (h : SqT K H a xs) (k : ∀ u, Rd H a (.tup u) → Rd H' a (.tup u)) : SqT K H' a xs := by
  rcases h with h | h
  · exact .inl (k _ h)
  · exact .inr h
theorem TupAt.seq {K : PySem.W.Frag} {H : Hp} {a : Addr} {xs : List V} {ds : List D} (h : TupAt K H a xs ds) : SqT K H a xs := .inl h
theorem TupAt.mono {K : PySem.W.Frag} {H H' : Hp} {a : Addr} {xs : List V} {ds : List D} (h : TupAt K H a xs ds) (k : ∀ u, Rd H a (.tup u) → Rd H' a (.tup u)) : TupAt K H' a xs ds := k _ h
theorem TupAt.mapL {K : PySem.W.Frag} {H : Hp} {a : Addr} {xs : List V} {ds : List D} (g : Fl → Fl) (h : TupAt K H a xs ds) : TupAt K H a xs (mapFL g ds) := h
/-- what is kept of the heap: tuples, what is frozen, what is lent -/
structure HLe (z : Zo) (H H' : Hp) : Prop where
  t : ∀ a u, Rd H a (.tup u) → Rd H' a (.tup u)
  S : ∀ a u, (∀ x y, u ≠ .frz x y) → z.S a → Rd H a u → Rd H' a u
  R : ∀ a u, (∀ x y, u ≠ .frz x y) → z.R a → Rd H a u → Rd H' a u
theorem HLe.of {z : Zo} {H H' : Hp} (k : ∀ a u, Rd H a u → Rd H' a u) : HLe z H H' := ⟨fun a u => k a _, fun a u _ _ => k a u, fun a u _ _ => k a u⟩
theorem HLe.refl {z : Zo} {H : Hp} : HLe z H H := .of fun _ _ h => h
theorem At.mono {z : Zo} {H H' : Hp} {f : Fl} {a : Addr} {u : HO} {B : List Addr} (h : At H f a u) (o : FlOk z a f) (kh : HLe z H H') (kA : ∀ b ∈ FlA f a ++ B, H' b = H b) (n : ∀ x y, u ≠ .frz x y := by intro x y q; cases q) : At H' f a u := by
  cases f with
  | own => show H' a = some u; rw [kA a (by simp [FlA])]; exact h
  | fr => exact kh.S _ _ n o.1 h
  | sh => exact kh.S _ _ n o h
  | ro => exact kh.R _ _ n o h
  | lk n => show H' a = some u; rw [kA a (by simp [FlA])]; exact h
theorem Rp.mono {z z' : Zo} {H H' : Hp} {g : Sg} {A : List Addr} (h : Rp z H g A) (k : ZLe z z') (kh : HLe z H H') (kA : ∀ a ∈ A, H' a = H a) : Rp z' H' g A := by
  induction h with
  | non => exact .non
  | bl b => exact .bl b
  | int i => exact .int i
  | str x => exact .str x
  | ty n => exact .ty n
  | fn e => exact .fn (by rw [k.gm]; exact e)
  | tup t _ ih => exact .tup (by rw [k.K]; exact t.mono (kh.t _)) (ih kA)
  | lst a o _ ih => exact .lst (a.mono o kh kA) (o.mono k) (ih fun b hb => kA b (List.mem_append_right _ hb))
  | dk a o n _ ih => exact .dk (a.mono o kh kA) (o.mono k) n (ih fun b hb => kA b (List.mem_append_right _ hb))
  | dt a o n _ ih => exact .dt (a.mono o kh kA) (o.mono k) n (ih fun b hb => kA b (List.mem_append_right _ hb))
  | ins a o e _ ih => exact .ins (a.mono o kh kA) (o.mono k) (by rw [k.gm]; exact e) (ih fun b hb => kA b (List.mem_append_right _ hb))
  | nil => exact .nil
  | cons _ _ i1 i2 => exact .cons (i1 fun b hb => kA b (List.mem_append_left _ hb)) (i2 fun b hb => kA b (List.mem_append_right _ hb))
  | knil => exact .knil
  | kcons _ _ i1 i2 => exact .kcons (i1 fun b hb => kA b (List.mem_append_left _ hb)) (i2 fun b hb => kA b (List.mem_append_right _ hb))
  | tnil => exact .tnil
  | tcons _ _ i1 i2 => exact .tcons (i1 fun b hb => kA b (List.mem_append_left _ hb)) (i2 fun b hb => kA b (List.mem_append_right _ hb))
  | snil => exact .snil
  | scons _ _ i1 i2 => exact .scons (i1 fun b hb => kA b (List.mem_append_left _ hb)) (i2 fun b hb => kA b (List.mem_append_right _ hb))

/-! ### lent, frozen -/
def mapS (g : Fl → Fl) : Sg → Sg
  | .v v d => .v v (mapF g d)
  | .l xs ds => .l xs (mapFL g ds)
  | .k xs ds => .k xs (mapFK g ds)
  | .t xs ds => .t xs (mapFT g ds)
  | .s xs ds => .s xs (mapFS g ds)
def allS (p : Fl → Bool) : Sg → Bool
  | .v v d => allF p d
  | .l xs ds => allFL p ds
  | .k xs ds => allFK p ds
  | .t xs ds => allFT p ds
  | .s xs ds => allFS p ds
theorem mapFK_keys (g : Fl → Fl) : ∀ ks : List (Key × D), (mapFK g ks).map (·.1) = ks.map (·.1)
  | [] => rfl
  | (k, d) :: r => by rw [mapFK, List.map_cons, List.map_cons, mapFK_keys g r]
theorem mapFT_keys (g : Fl → Fl) : ∀ ks : List (List Key × D), (mapFT g ks).map (·.1) = ks.map (·.1)
  | [] => rfl
  | (k, d) :: r => by rw [mapFT, List.map_cons, List.map_cons, mapFT_keys g r]
/-- the marks are changed to such as own nothing -/
theorem Rp.remark {z z' : Zo} {H : Hp} {g : Sg} {A : List Addr} {m : Fl → Fl} {P : Fl → Bool} (h : Rp z H g A) (kK : z'.K = z.K) (kg : z'.gm = z.gm) (hP : allS P g = true)
    (hm : ∀ (f : Fl) (a : Addr), P f = true → FlOk z a f → (∃ u, Rd H a u) → (∀ b ∈ FlA f a, b ∈ A) → FlA (m f) a = [] ∧ FlOk z' a (m f)) : Rp z' H (mapS m g) [] := by
  have at' : ∀ {f : Fl} {a : Addr} {u : HO}, At H f a u → FlA (m f) a = [] → At H (m f) a u := fun {f a u} h e => by
    have r := h.rd
    generalize m f = q at e
    cases q with
    | own => cases e
    | lk n => cases e
    | fr => exact r
    | sh => exact r
    | ro => exact r
  induction h with
  | non => exact .non
  | bl b => exact .bl b
  | int i => exact .int i
  | str x => exact .str x
  | ty n => exact .ty n
  | fn e => exact .fn (by rw [kg]; exact e)
  | tup t _ ih => exact .tup (by rw [kK]; exact t.mapL m) (ih hP hm)
  | @lst f a xs ds B at0 o _ ih =>
    simp only [allS, allF, Bool.and_eq_true] at hP
    obtain ⟨e1, e2⟩ := hm f a hP.1 o ⟨_, at0.rd⟩ fun b hb => List.mem_append_left _ hb
    have := Rp.lst (z := z') (H := H) (f := m f) (at' at0 e1) e2 (ih hP.2 fun f a q0 o r q => hm f a q0 o r fun b hb => List.mem_append_right _ (q b hb))
    rw [e1] at this; exact this
  | @dk f a xs ds B at0 o n _ ih =>
    simp only [allS, allF, Bool.and_eq_true] at hP
    obtain ⟨e1, e2⟩ := hm f a hP.1 o ⟨_, at0.rd⟩ fun b hb => List.mem_append_left _ hb
    have := Rp.dk (z := z') (H := H) (f := m f) (at' at0 e1) e2 (by rw [mapFK_keys]; exact n) (ih hP.2 fun f a q0 o r q => hm f a q0 o r fun b hb => List.mem_append_right _ (q b hb))
    rw [e1] at this; exact this
  | @dt f a xs ds B at0 o n _ ih =>
    simp only [allS, allF, Bool.and_eq_true] at hP
    obtain ⟨e1, e2⟩ := hm f a hP.1 o ⟨_, at0.rd⟩ fun b hb => List.mem_append_left _ hb
    have := Rp.dt (z := z') (H := H) (f := m f) (at' at0 e1) e2 (by rw [mapFT_keys]; exact n) (ih hP.2 fun f a q0 o r q => hm f a q0 o r fun b hb => List.mem_append_right _ (q b hb))
    rw [e1] at this; exact this
  | @ins f a C dx c fs es B at0 o e _ ih =>
    simp only [allS, allF, Bool.and_eq_true] at hP
    obtain ⟨e1, e2⟩ := hm f a hP.1 o ⟨_, at0.rd⟩ fun b hb => List.mem_append_left _ hb
    have := Rp.ins (z := z') (H := H) (f := m f) (at' at0 e1) e2 (by rw [kg]; exact e) (ih hP.2 fun f a q0 o r q => hm f a q0 o r fun b hb => List.mem_append_right _ (q b hb))
    rw [e1] at this; exact this
  | nil => exact .nil
  | @cons v d vs ds A B _ _ i1 i2 =>
    simp only [allS, allFL, Bool.and_eq_true] at hP
    exact Rp.cons (A := []) (B := []) (i1 hP.1 fun f a q0 o r q => hm f a q0 o r fun b hb => List.mem_append_left _ (q b hb)) (i2 hP.2 fun f a q0 o r q => hm f a q0 o r fun b hb => List.mem_append_right _ (q b hb))
  | knil => exact .knil
  | @kcons k v d vs ds A B _ _ i1 i2 =>
    simp only [allS, allFK, Bool.and_eq_true] at hP
    exact Rp.kcons (A := []) (B := []) (i1 hP.1 fun f a q0 o r q => hm f a q0 o r fun b hb => List.mem_append_left _ (q b hb)) (i2 hP.2 fun f a q0 o r q => hm f a q0 o r fun b hb => List.mem_append_right _ (q b hb))
  | tnil => exact .tnil
  | @tcons k v d vs ds A B _ _ i1 i2 =>
    simp only [allS, allFT, Bool.and_eq_true] at hP
    exact Rp.tcons (A := []) (B := []) (i1 hP.1 fun f a q0 o r q => hm f a q0 o r fun b hb => List.mem_append_left _ (q b hb)) (i2 hP.2 fun f a q0 o r q => hm f a q0 o r fun b hb => List.mem_append_right _ (q b hb))
  | snil => exact .snil
  | @scons k v d vs ds A B _ _ i1 i2 =>
    simp only [allS, allFS, Bool.and_eq_true] at hP
    exact Rp.scons (A := []) (B := []) (i1 hP.1 fun f a q0 o r q => hm f a q0 o r fun b hb => List.mem_append_left _ (q b hb)) (i2 hP.2 fun f a q0 o r q => hm f a q0 o r fun b hb => List.mem_append_right _ (q b hb))
mutual
theorem allF_true : ∀ d : D, allF (fun _ => true) d = true
  | .non => rfl | .bl _ => rfl | .int _ => rfl | .str _ => rfl
  | .tup ds => allFL_true ds
  | .lst _ ds => by rw [allF, allFL_true ds]; rfl
  | .dk _ ks => by rw [allF, allFK_true ks]; rfl
  | .dt _ ks => by rw [allF, allFT_true ks]; rfl
  | .ins _ _ fs => by rw [allF, allFS_true fs]; rfl
  | .exc _ _ fs => by rw [allF, allFS_true fs]; rfl
  | .fn _ => rfl
  | .ty _ => rfl
theorem allFL_true : ∀ ds : List D, allFL (fun _ => true) ds = true
  | [] => rfl
  | d :: r => by rw [allFL, allF_true d, allFL_true r]; rfl
theorem allFK_true : ∀ ds : List (Key × D), allFK (fun _ => true) ds = true
  | [] => rfl
  | (_, d) :: r => by rw [allFK, allF_true d, allFK_true r]; rfl
theorem allFT_true : ∀ ds : List (List Key × D), allFT (fun _ => true) ds = true
  | [] => rfl
  | (_, d) :: r => by rw [allFT, allF_true d, allFT_true r]; rfl
theorem allFS_true : ∀ ds : List (Str × D), allFS (fun _ => true) ds = true
  | [] => rfl
  | (_, d) :: r => by rw [allFS, allF_true d, allFS_true r]; rfl
end
/-- everything that stands is read -/
def zW (K : PySem.W.Frag) (gm : Str → Option Value) (H : Hp) : Zo := ⟨K, gm, fun _ => False, fun a => ∃ o, H a = some o, H, []⟩
theorem rd_dom {H : Hp} {a : Addr} {u : HO} (h : Rd H a u) : ∃ o, H a = some o := by
  rcases h with h | ⟨o, h⟩ <;> exact ⟨_, h⟩
theorem Rp.lend {z : Zo} {H : Hp} {v : V} {d : D} {A : List Addr} (h : Rp z H (.v v d) A) : Rp (zW z.K z.gm H) H (.v v (lend d)) [] :=
  Rp.remark (m := fun _ => .ro) (P := fun _ => true) h rfl rfl (allF_true d) fun f a _ _ r _ => ⟨rfl, let ⟨_, r⟩ := r; rd_dom r⟩
/-- lent things stay lent -/
theorem Rp.wmono {K : PySem.W.Frag} {gm : Str → Option Value} {H H' : Hp} {g : Sg} {A : List Addr} (h : Rp (zW K gm H) H g A) (hA : A = []) (k : ∀ a u, Rd H a u → Rd H' a u) : Rp (zW K gm H') H' g A := by
  have kd : ∀ a, (∃ o, H a = some o) → ∃ o, H' a = some o := fun a ⟨o, e⟩ => rd_dom (k a o (.inl e))
  refine Rp.mono h ⟨rfl, rfl, fun _ h => h, kd, fun _ h => h.elim, rfl⟩ (.of k) fun a ha => ?_
  subst hA; cases ha
/-- what owns nothing, in another zone -/
theorem Rp.ofImm {z z' : Zo} {H : Hp} {g : Sg} {A : List Addr} (h : Rp z H g A) (kK : z'.K = z.K) (kg : z'.gm = z.gm) (hi : allS (fun _ => false) g = true) : Rp z' H g A ∧ A = [] := by
  induction h with
  | non => exact ⟨.non, rfl⟩
  | bl b => exact ⟨.bl b, rfl⟩
  | int i => exact ⟨.int i, rfl⟩
  | str x => exact ⟨.str x, rfl⟩
  | ty n => exact ⟨.ty n, rfl⟩
  | fn e => exact ⟨.fn (by rw [kg]; exact e), rfl⟩
  | tup t _ ih => exact ⟨.tup (by rw [kK]; exact t) (ih hi).1, (ih hi).2⟩
  | lst => simp [allS, allF] at hi
  | dk => simp [allS, allF] at hi
  | dt => simp [allS, allF] at hi
  | ins => simp [allS, allF] at hi
  | nil => exact ⟨.nil, rfl⟩
  | cons _ _ i1 i2 =>
    simp only [allS, allFL, Bool.and_eq_true] at hi
    exact ⟨.cons (i1 hi.1).1 (i2 hi.2).1, by rw [(i1 hi.1).2, (i2 hi.2).2]; rfl⟩
  | knil => exact ⟨.knil, rfl⟩
  | kcons _ _ i1 i2 =>
    simp only [allS, allFK, Bool.and_eq_true] at hi
    exact ⟨.kcons (i1 hi.1).1 (i2 hi.2).1, by rw [(i1 hi.1).2, (i2 hi.2).2]; rfl⟩
  | tnil => exact ⟨.tnil, rfl⟩
  | tcons _ _ i1 i2 =>
    simp only [allS, allFT, Bool.and_eq_true] at hi
    exact ⟨.tcons (i1 hi.1).1 (i2 hi.2).1, by rw [(i1 hi.1).2, (i2 hi.2).2]; rfl⟩
  | snil => exact ⟨.snil, rfl⟩
  | scons _ _ i1 i2 =>
    simp only [allS, allFS, Bool.and_eq_true] at hi
    exact ⟨.scons (i1 hi.1).1 (i2 hi.2).1, by rw [(i1 hi.1).2, (i2 hi.2).2]; rfl⟩
/-- what is its own stands in the heap -/
theorem Rp.dom {z : Zo} {H : Hp} {g : Sg} {A : List Addr} (h : Rp z H g A) : ∀ a ∈ A, ∃ u, H a = some u ∧ Mut (some u) := by
  have q : ∀ {f : Fl} {a : Addr} {u : HO}, At H f a u → Mut (some u) → ∀ b ∈ FlA f a, ∃ u, H b = some u ∧ Mut (some u) := fun {f a u} h m b hb => by
    cases f with
    | own => have e : b = a := by simpa [FlA] using hb
             subst e; exact ⟨u, h, m⟩
    | lk n => have e : b = a := by simpa [FlA] using hb
              subst e; exact ⟨u, h, m⟩
    | fr => cases hb
    | sh => cases hb
    | ro => cases hb
  induction h with
  | lst a o _ ih => exact fun b hb => (List.mem_append.mp hb).elim (q a trivial b) (ih b)
  | dk a o n _ ih => exact fun b hb => (List.mem_append.mp hb).elim (q a trivial b) (ih b)
  | dt a o n _ ih => exact fun b hb => (List.mem_append.mp hb).elim (q a trivial b) (ih b)
  | ins a o e _ ih => exact fun b hb => (List.mem_append.mp hb).elim (q a trivial b) (ih b)
  | tup _ _ ih => exact ih
  | cons _ _ i1 i2 => exact fun b hb => (List.mem_append.mp hb).elim (i1 b) (i2 b)
  | kcons _ _ i1 i2 => exact fun b hb => (List.mem_append.mp hb).elim (i1 b) (i2 b)
  | tcons _ _ i1 i2 => exact fun b hb => (List.mem_append.mp hb).elim (i1 b) (i2 b)
  | scons _ _ i1 i2 => exact fun b hb => (List.mem_append.mp hb).elim (i1 b) (i2 b)
  | _ => exact fun b hb => by cases hb
end DG

set_option Elab.async false
set_option linter.all false
set_option maxHeartbeats 4000000
/-! DGb: the slots of a frame, pending values, locks: Gd, what holds between two steps. -/
namespace DG
open PySem PySem.Spec PyProof.Rows L2
set_option autoImplicit false
/-! ### locks, and what is hidden -/
/-- lo: dicts that are locked while a loop walks them; hd: objects that are known to be as they are and are none of what goes on -/
structure Lk where
  lo : List (Addr × Obj)
  hd : List (Addr × HO)
def lockO : Option HO → Option Obj → Option HO
  | some u, some od => some (.frz od u)
  | g, _ => g
def lockAll (L : Lk) (G : Hp) : Hp := fun a => match L.hd.lookup a with
  | some o => some o
  | none => lockO (G a) (L.lo.lookup a)
structure LkOk (L : Lk) (G : Hp) : Prop where
  lo : ∀ a od, L.lo.lookup a = some od → ∃ u, G a = some u ∧ Mut (some u)
  hd : ∀ a o, L.hd.lookup a = some o → G a = none ∧ Mut (some o)
theorem lockAll_nil (G : Hp) : lockAll ⟨[], []⟩ G = G := by
  funext a; show lockO (G a) none = G a; cases G a <;> rfl
section
variable {L : Lk} {G : Hp} {a : Addr}
theorem LkOk.nohd (k : LkOk L G) {u : HO} (h : G a = some u) : L.hd.lookup a = none := by
  cases q : L.hd.lookup a with
  | none => rfl
  | some o => rw [(k.hd a o q).1] at h; cases h
theorem lockAll_eq (h : L.hd.lookup a = none) : lockAll L G a = lockO (G a) (L.lo.lookup a) := by unfold lockAll; rw [h]
theorem lockAll_hd {o : HO} (h : L.hd.lookup a = some o) : lockAll L G a = some o := by unfold lockAll; rw [h]
theorem lockAll_free (k : LkOk L G) {u : HO} (h : L.lo.lookup a = none) (g : G a = some u) : lockAll L G a = some u := by
  rw [lockAll_eq (k.nohd g), h, g]; rfl
theorem lockAll_none (h : lockAll L G a = none) : L.hd.lookup a = none ∧ G a = none := by
  cases q : L.hd.lookup a with
  | some o => rw [lockAll_hd q] at h; cases h
  | none =>
    rw [lockAll_eq q] at h
    refine ⟨rfl, ?_⟩
    revert h
    cases G a <;> cases L.lo.lookup a <;> simp [lockO]
theorem lockAll_at (k : LkOk L G) {od : Obj} {u : HO} (h : L.lo.lookup a = some od) (g : G a = some u) : lockAll L G a = some (.frz od u) := by
  rw [lockAll_eq (k.nohd g), h, g]; rfl
theorem lockAll_upd {p : Addr} {o : HO} (h : L.lo.lookup p = none) (h' : L.hd.lookup p = none) : upd (lockAll L G) p o = lockAll L (upd G p o) := by
  funext a
  by_cases e : a = p
  · subst e; rw [upd_same, lockAll_eq h', h, upd_same]; rfl
  · rw [upd_ne e]
    unfold lockAll
    rw [upd_ne e]
theorem lockAll_cons (k : LkOk L G) {d : Addr} {od : Obj} {u : HO} (h : L.lo.lookup d = none) (g : G d = some u) : lockAll ⟨(d, od) :: L.lo, L.hd⟩ G = upd (lockAll L G) d (.frz od u) := by
  funext a
  by_cases e : a = d
  · subst e
    rw [upd_same]
    unfold lockAll
    rw [show (Lk.mk ((a, od) :: L.lo) L.hd).hd.lookup a = none from k.nohd g, g, show (Lk.mk ((a, od) :: L.lo) L.hd).lo.lookup a = some od by simp]
    rfl
  · rw [upd_ne e]
    unfold lockAll
    show (match L.hd.lookup a with | some o => some o | none => lockO (G a) (((d, od) :: L.lo).lookup a)) = _
    rw [List.lookup_cons, beq_false_of_ne e]
/-- one more thing is hidden -/
theorem lockAll_hide {d : Addr} {o : HO} : lockAll ⟨L.lo, (d, o) :: L.hd⟩ G = upd (lockAll L G) d o := by
  funext a
  by_cases e : a = d
  · subst e; rw [upd_same]; exact lockAll_hd (by simp)
  · rw [upd_ne e]
    unfold lockAll
    show (match ((d, o) :: L.hd).lookup a with | some o => some o | none => _) = _
    rw [List.lookup_cons, beq_false_of_ne e]
theorem lockAll_rd (k : LkOk L G) {u : HO} (h : Rd G a u) : Rd (lockAll L G) a u := by
  have hn : L.hd.lookup a = none := by
    rcases h with h | ⟨o, h⟩
    · exact k.nohd h
    · exact k.nohd h
  cases q : L.lo.lookup a with
  | none =>
    rcases h with h | ⟨o, h⟩
    · exact .inl (lockAll_free k q h)
    · exact .inr ⟨o, lockAll_free k q h⟩
  | some od =>
    obtain ⟨x, hx, mx⟩ := k.lo a od q
    rcases h with h | ⟨o, h⟩
    · exact .inr ⟨od, lockAll_at k q h⟩
    · rw [h] at hx; cases hx; exact mx.elim
end

/-! ### places -/
section
variable {κ α : Type} [DecidableEq κ]
def getA : List (κ × α) → κ → Option α
  | [], _ => none
  | (k', a) :: r, k => if k' = k then some a else getA r k
end
inductive Stp where
  | fld (f : Str) | key (k : Key) | kt (k : List Key) | ix (n : Nat)
abbrev Pth := List Stp
/-- the value behind a step, a path -/
def VS (H : Hp) (v : V) : Stp → V → Prop
  | .fld f, x => ∃ a C dx fs, v = .ref a ∧ Rd H a (.ins C dx fs) ∧ getA fs f = some x
  | .key k, x => ∃ a ks, v = .ref a ∧ Rd H a (.dK ks) ∧ getA ks k = some x
  | .kt k, x => ∃ a ks, v = .ref a ∧ Rd H a (.dT ks) ∧ getA ks k = some x
  | .ix n, x => ∃ a xs, v = .ref a ∧ (Rd H a (.lst xs) ∨ Rd H a (.tup xs)) ∧ xs[n]? = some x
def VP (H : Hp) : V → Pth → V → Prop
  | v, [], x => x = v
  | v, s :: r, x => ∃ y, VS H v s y ∧ VP H y r x
theorem VS.mono {H H' : Hp} (k : ∀ a u, Rd H a u → Rd H' a u) {v x : V} {s : Stp} (h : VS H v s x) : VS H' v s x := by
  cases s with
  | fld f => obtain ⟨a, C, dx, fs, e, r, q⟩ := h; exact ⟨a, C, dx, fs, e, k _ _ r, q⟩
  | key f => obtain ⟨a, fs, e, r, q⟩ := h; exact ⟨a, fs, e, k _ _ r, q⟩
  | kt f => obtain ⟨a, fs, e, r, q⟩ := h; exact ⟨a, fs, e, k _ _ r, q⟩
  | ix n => obtain ⟨a, xs, e, r, q⟩ := h; exact ⟨a, xs, e, r.elim (fun z => .inl (k _ _ z)) (fun z => .inr (k _ _ z)), q⟩
theorem VP.mono {H H' : Hp} (k : ∀ a u, Rd H a u → Rd H' a u) : ∀ {π : Pth} {v x : V}, VP H v π x → VP H' v π x
  | [], _, _, h => h
  | _ :: _, _, _, ⟨y, h1, h2⟩ => ⟨y, h1.mono k, VP.mono k h2⟩
/-- what stands at the place (i, π) -/
def PlV (σ : L2.St) (H : Hp) (i : Nat) (π : Pth) (x : V) : Prop := ∃ v, σ[i]? = some (some v) ∧ VP H v π x
/-- a pending value that is only read; a pending place -/
inductive Wk where
  | v (v : V) (d : D)
  | p (i : Nat) (π : Pth) (x : V)
def Wk.imm : Wk → Bool
  | .v _ d => DG.imm d
  | .p _ _ _ => false
def WkOk (K : PySem.W.Frag) (gm : Str → Option Value) (nl : Nat) (σ : L2.St) (G : Hp) : Wk → Prop
  | .v v d => Rp (zW K gm G) G (.v v d) []
  | .p i π x => i < nl ∧ PlV σ G i π x
theorem PlV.mono {σ : L2.St} {H H' : Hp} {i : Nat} {π : Pth} {x : V} (h : PlV σ H i π x) (k : ∀ a u, Rd H a u → Rd H' a u) : PlV σ H' i π x := let ⟨v, h1, h2⟩ := h; ⟨v, h1, h2.mono k⟩
theorem WkOk.mono {K : PySem.W.Frag} {gm : Str → Option Value} {nl : Nat} {σ : L2.St} {H H' : Hp} {w : Wk} (h : WkOk K gm nl σ H w) (k : ∀ a u, Rd H a u → Rd H' a u) : WkOk K gm nl σ H' w := by
  cases w with
  | v v d => exact Rp.wmono h rfl k
  | p i π x => exact ⟨h.1, h.2.mono k⟩
theorem WkOk.slots {K : PySem.W.Frag} {gm : Str → Option Value} {nl : Nat} {σ σ' : L2.St} {H : Hp} {w : Wk} (h : WkOk K gm nl σ H w) (k : ∀ i, i < nl → σ'[i]? = σ[i]?) : WkOk K gm nl σ' H w := by
  cases w with
  | v v d => exact h
  | p i π x => obtain ⟨h1, v, h2, h3⟩ := h; exact ⟨h1, v, by rw [k i h1]; exact h2, h3⟩
/-! ### slots, pending values -/
inductive RpE (z : Zo) (H : Hp) : List (Option V) → List (Option D) → List Addr → Prop
  | nil : RpE z H [] [] []
  | skip {x : Option V} {σ : List (Option V)} {e : List (Option D)} {A : List Addr} : RpE z H σ e A → RpE z H (x :: σ) (none :: e) A
  | cons {v : V} {d : D} {σ : List (Option V)} {e : List (Option D)} {A B : List Addr} : Rp z H (.v v d) A → RpE z H σ e B → RpE z H (some v :: σ) (some d :: e) (A ++ B)
inductive RpS (z : Zo) (H : Hp) : List (V × D) → List Addr → Prop
  | nil : RpS z H [] []
  | cons {p : V × D} {st : List (V × D)} {A B : List Addr} : Rp z H (.v p.1 p.2) A → RpS z H st B → RpS z H (p :: st) (A ++ B)
section
variable {z z' : Zo} {H H' : Hp} {σ : List (Option V)} {e : List (Option D)} {A B : List Addr} {st : List (V × D)}
theorem RpE.mono (h : RpE z H σ e A) (k : ZLe z z') (kh : HLe z H H') (kA : ∀ a ∈ A, H' a = H a) : RpE z' H' σ e A := by
  induction h with
  | nil => exact .nil
  | skip _ ih => exact .skip (ih kA)
  | cons r _ ih => exact .cons (r.mono k kh fun b hb => kA b (List.mem_append_left _ hb)) (ih fun b hb => kA b (List.mem_append_right _ hb))
theorem RpS.mono (h : RpS z H st A) (k : ZLe z z') (kh : HLe z H H') (kA : ∀ a ∈ A, H' a = H a) : RpS z' H' st A := by
  induction h with
  | nil => exact .nil
  | cons r _ ih => exact .cons (r.mono k kh fun b hb => kA b (List.mem_append_left _ hb)) (ih fun b hb => kA b (List.mem_append_right _ hb))
theorem RpE.len (h : RpE z H σ e A) : σ.length = e.length := by
  induction h with
  | nil => rfl
  | skip _ ih => simp [ih]
  | cons _ _ ih => simp [ih]
theorem RpE.dom (h : RpE z H σ e A) : ∀ a ∈ A, ∃ u, H a = some u ∧ Mut (some u) := by
  induction h with
  | nil => exact fun b hb => by cases hb
  | skip _ ih => exact ih
  | cons r _ ih => exact fun b hb => (List.mem_append.mp hb).elim (r.dom b) (ih b)
theorem RpS.dom (h : RpS z H st A) : ∀ a ∈ A, ∃ u, H a = some u ∧ Mut (some u) := by
  induction h with
  | nil => exact fun b hb => by cases hb
  | cons r _ ih => exact fun b hb => (List.mem_append.mp hb).elim (r.dom b) (ih b)
/-- one slot apart -/
theorem RpE.split (h : RpE z H σ e A) : ∀ {i : Nat} {d : D}, e[i]? = some (some d) → ∃ v A1 A2, σ[i]? = some (some v) ∧ Rp z H (.v v d) A1 ∧ A.Perm (A1 ++ A2) ∧ RpE z H σ (e.set i none) A2 := by
  induction h with
  | nil => intro i d q; simp at q
  | @skip x σ e A r ih =>
    intro i d q
    cases i with
    | zero => simp at q
    | succ i =>
      obtain ⟨v, A1, A2, h1, h2, h3, h4⟩ := ih (i := i) (by simpa using q)
      exact ⟨v, A1, A2, by simpa using h1, h2, h3, .skip h4⟩
  | @cons v d σ e A B r rr ih =>
    intro i d' q
    cases i with
    | zero =>
      have : d = d' := by simpa using q
      subst this
      exact ⟨v, A, B, rfl, r, .refl _, .skip rr⟩
    | succ i =>
      obtain ⟨v', A1, A2, h1, h2, h3, h4⟩ := ih (i := i) (by simpa using q)
      refine ⟨v', A1, A ++ A2, by simpa using h1, h2, ?_, .cons r h4⟩
      refine (List.Perm.append_left A h3).trans ?_
      rw [← List.append_assoc, ← List.append_assoc]
      exact List.Perm.append_right _ List.perm_append_comm
theorem RpE.put (h : RpE z H σ e A) : ∀ {i : Nat} {v : V} {d : D} {B : List Addr}, e[i]? = some none → Rp z H (.v v d) B → ∃ A', RpE z H (σ.set i (some v)) (e.set i (some d)) A' ∧ A'.Perm (B ++ A) := by
  induction h with
  | nil => intro i v d B q; simp at q
  | @skip x σ e A r ih =>
    intro i v d B q rv
    cases i with
    | zero => exact ⟨B ++ A, .cons rv r, .refl _⟩
    | succ i =>
      obtain ⟨A', h1, h2⟩ := ih (i := i) (by simpa using q) rv
      exact ⟨A', .skip h1, h2⟩
  | @cons v0 d0 σ e A B0 r rr ih =>
    intro i v d B q rv
    cases i with
    | zero => simp at q
    | succ i =>
      obtain ⟨A', h1, h2⟩ := ih (i := i) (by simpa using q) rv
      refine ⟨A ++ A', .cons r h1, (List.Perm.append_left A h2).trans ?_⟩
      rw [← List.append_assoc, ← List.append_assoc]
      exact List.Perm.append_right _ List.perm_append_comm
theorem RpE.setSlot (h : RpE z H σ e A) : ∀ {i : Nat} (x : Option V), e[i]? = some none → RpE z H (σ.set i x) e A := by
  induction h with
  | nil => intro i x q; simp at q
  | @skip y σ e A r ih =>
    intro i x q
    cases i with
    | zero => exact .skip r
    | succ i => exact .skip (ih (i := i) x (by simpa using q))
  | @cons v0 d0 σ e A B0 r rr ih =>
    intro i x q
    cases i with
    | zero => simp at q
    | succ i => exact .cons r (ih (i := i) x (by simpa using q))
theorem RpE.kill (h : RpE z H σ e A) (i : Nat) : ∃ A2, RpE z H σ (e.set i none) A2 ∧ ∃ A1, A.Perm (A1 ++ A2) := by
  cases q : e[i]? with
  | none => exact ⟨A, by rw [List.set_eq_of_length_le (List.getElem?_eq_none_iff.mp q)]; exact h, [], .refl _⟩
  | some x =>
    cases x with
    | none =>
      refine ⟨A, ?_, [], .refl _⟩
      have : e.set i none = e := by
        apply List.ext_getElem?
        intro j
        by_cases hj : j = i
        · subst hj
          rw [List.getElem?_set_self (List.getElem?_eq_some_iff.mp q).1, q]
        · rw [List.getElem?_set_ne (Ne.symm hj)]
      rw [this]; exact h
    | some d =>
      obtain ⟨v, A1, A2, _, _, h3, h4⟩ := h.split q
      exact ⟨A2, h4, A1, h3⟩
theorem RpS.perm {st' : List (V × D)} (p : st.Perm st') : ∀ {A : List Addr}, RpS z H st A → ∃ A', RpS z H st' A' ∧ A.Perm A' := by
  induction p with
  | nil => exact fun h => ⟨_, h, .refl _⟩
  | cons x _ ih =>
    intro A h
    cases h with
    | @cons _ _ A1 B1 r rr =>
      obtain ⟨A', h1, h2⟩ := ih rr
      exact ⟨A1 ++ A', .cons r h1, List.Perm.append_left _ h2⟩
  | swap x y l =>
    intro A h
    cases h with
    | @cons _ _ A1 B1 r rr =>
      cases rr with
      | @cons _ _ A2 B2 r2 rr2 =>
        refine ⟨A2 ++ (A1 ++ B2), .cons r2 (.cons r rr2), ?_⟩
        rw [← List.append_assoc, ← List.append_assoc]
        exact List.Perm.append_right _ List.perm_append_comm
  | trans _ _ i1 i2 =>
    intro A h
    obtain ⟨A', h1, h2⟩ := i1 h
    obtain ⟨A'', h3, h4⟩ := i2 h1
    exact ⟨A'', h3, h2.trans h4⟩
theorem RpS.append {st' : List (V × D)} (h : RpS z H st A) (h' : RpS z H st' B) : RpS z H (st ++ st') (A ++ B) := by
  induction h with
  | nil => exact h'
  | cons r _ ih => rw [List.append_assoc]; exact .cons r ih
theorem RpS.unappend {st' : List (V × D)} : ∀ {st : List (V × D)} {A : List Addr}, RpS z H (st ++ st') A → ∃ A1 A2, RpS z H st A1 ∧ RpS z H st' A2 ∧ A = A1 ++ A2
  | [], A, h => ⟨[], A, .nil, h, rfl⟩
  | p :: st, A, h => by
    cases h with
    | @cons _ _ A1 B1 r rr =>
      obtain ⟨C1, C2, h1, h2, rfl⟩ := RpS.unappend rr
      exact ⟨A1 ++ C1, C2, .cons r h1, h2, by rw [List.append_assoc]⟩
end
/-! ### what holds between two steps -/
/-- the written part, the module's names -/
structure Kx where
  K : PySem.W.Frag
  mg : Str → Option Value
abbrev kx (X : Cx) : Kx := ⟨X.K, X.mg⟩
instance : Coe Cx Kx := ⟨kx⟩
structure Par where
  H0 : Hp
  S0 : Addr → Prop
  R0 : Addr → Prop
  O : List Addr
  io : Option V
  nl : Nat
structure Par.Ok (p : Par) : Prop where
  sr : ∀ a, p.S0 a → p.R0 a
  rd : ∀ a, p.R0 a → (∃ o, p.H0 a = some o) ∧ a ∉ p.O
  od : ∀ a ∈ p.O, ∃ u, p.H0 a = some u ∧ Mut (some u)
  ft : ∀ a x xs, p.H0 a ≠ some (.frz x (.tup xs))
abbrev zo (X : Kx) (p : Par) (S : Addr → Prop) (lk : List Addr) : Zo := ⟨X.K, X.mg, S, p.R0, p.H0, lk⟩
abbrev Env := List (Option D)
abbrev Stk := List (V × D)
structure GdB (X : Kx) (p : Par) (lk : List Addr) (L : Lk) (σ : L2.St) (H : Hp) (e : Env) (st : Stk) (ws : List Wk) (S : Addr → Prop) (G : Hp) (A B : List Addr) : Prop where
  ok : p.Ok
  hL : H = lockAll L G
  lkd : LkOk L G
  lkz : ∀ a od, L.lo.lookup a = some od → S a ∨ p.R0 a ∨ a ∈ lk
  lke : ∀ a ∈ lk, ∃ o, G a = some o
  env : RpE (zo X p S lk) G σ e A
  stk : RpS (zo X p S lk) G st B
  wk : ∀ w ∈ ws, WkOk X.K X.mg p.nl σ G w
  nd : (A ++ B).Nodup
  dj : ∀ a ∈ A ++ B, ¬ S a ∧ ¬ p.R0 a
  ow : ∀ a ∈ A ++ B, p.H0 a = none ∨ a ∈ p.O
  s0 : ∀ a, p.S0 a → S a
  sd : ∀ a, S a → (p.S0 a ∨ p.H0 a = none ∨ a ∈ p.O) ∧ ∃ o, G a = some o
  fr : ∀ a o, p.H0 a = some o → a ∉ p.O → G a = some o
  oo : ∀ a ∈ p.O, ∃ o, G a = some o
  pin : ∀ v, p.io = some v → σ[0]? = some (some v)
  nf : ∀ a, p.H0 a = none ∨ a ∈ p.O → ∀ x u, G a ≠ some (.frz x u)
def Gd (X : Kx) (p : Par) (lk : List Addr) (L : Lk) (σ : L2.St) (H : Hp) (e : Env) (st : Stk) (ws : List Wk) : Prop := ∃ S G A B, GdB X p lk L σ H e st ws S G A B
section
variable {X : Kx} {p : Par} {lk : List Addr} {L : Lk} {σ : L2.St} {H : Hp} {e : Env} {st : Stk} {ws : List Wk}
/-- no tuple is locked -/
theorem Gd.nft (g : Gd X p lk L σ H e st ws) (a : Addr) (x : Obj) (xs : List V) : H a ≠ some (.frz x (.tup xs)) := by
  obtain ⟨S, G, A, B, g⟩ := g
  intro h
  rw [g.hL] at h
  cases q : L.hd.lookup a with
  | some o => rw [lockAll_hd q] at h; have m := (g.lkd.hd a o q).2; cases h; exact m.elim
  | none =>
    cases q2 : L.lo.lookup a with
    | some od =>
      obtain ⟨u, h1, h2⟩ := g.lkd.lo a od q2
      rw [lockAll_at g.lkd q2 h1] at h
      cases h
      exact h2.elim
    | none =>
      rw [lockAll_eq q, q2] at h
      have hG : G a = some (.frz x (.tup xs)) := by
        cases z : G a with
        | none => rw [z] at h; cases h
        | some o => rw [z] at h; exact h
      cases z : p.H0 a with
      | none => exact g.nf a (.inl z) _ _ hG
      | some o =>
        by_cases hO : a ∈ p.O
        · exact g.nf a (.inr hO) _ _ hG
        · rw [g.fr a o z hO] at hG; cases hG; exact g.ok.ft a _ _ z
theorem Gd.tup (g : Gd X p lk L σ H e st ws) {a : Addr} {xs : List V} (h : Rd H a (.tup xs)) : H a = some (.tup xs) := by
  rcases h with h | ⟨x, h⟩
  · exact h
  · exact absurd h (g.nft a x xs)
/-- fewer pending values, owned things let go -/
theorem GdB.less {S : Addr → Prop} {G : Hp} {A B A' B' : List Addr} {σ' : L2.St} {e' : Env} {st' : Stk} {ws' : List Wk} (g : GdB X p lk L σ H e st ws S G A B) (env : RpE (zo X p S lk) G σ' e' A') (stk : RpS (zo X p S lk) G st' B')
    (wk : ∀ w ∈ ws', WkOk X.K X.mg p.nl σ' G w) (hs : ∃ C, (A ++ B).Perm (C ++ (A' ++ B'))) (pin : ∀ v, p.io = some v → σ'[0]? = some (some v)) : GdB X p lk L σ' H e' st' ws' S G A' B' := by
  obtain ⟨C, hp⟩ := hs
  have sub : ∀ a ∈ A' ++ B', a ∈ A ++ B := fun a ha => hp.mem_iff.mpr (List.mem_append_right _ ha)
  exact ⟨g.ok, g.hL, g.lkd, g.lkz, g.lke, env, stk, wk, (List.nodup_append.mp (hp.nodup_iff.mp g.nd)).2.1, fun a ha => g.dj a (sub a ha), fun a ha => g.ow a (sub a ha), g.s0, g.sd, g.fr, g.oo, pin, g.nf⟩
theorem Gd.dropW {w : Wk} (g : Gd X p lk L σ H e st (w :: ws)) : Gd X p lk L σ H e st ws :=
  let ⟨S, G, A, B, g⟩ := g
  ⟨S, G, A, B, g.less g.env g.stk (fun w h => g.wk w (List.mem_cons_of_mem _ h)) ⟨[], .refl _⟩ g.pin⟩
theorem Gd.subW {ws' : List Wk} (g : Gd X p lk L σ H e st ws) (h : ∀ w ∈ ws', w ∈ ws) : Gd X p lk L σ H e st ws' :=
  let ⟨S, G, A, B, g⟩ := g
  ⟨S, G, A, B, g.less g.env g.stk (fun w hw => g.wk w (h w hw)) ⟨[], .refl _⟩ g.pin⟩
theorem Gd.perm {st' : Stk} (g : Gd X p lk L σ H e st ws) (h : st.Perm st') : Gd X p lk L σ H e st' ws := by
  obtain ⟨S, G, A, B, g⟩ := g
  obtain ⟨B', h1, h2⟩ := g.stk.perm h
  exact ⟨S, G, A, B', g.less g.env h1 g.wk ⟨[], List.Perm.append_left _ h2⟩ g.pin⟩
theorem Gd.drop {w : V × D} (g : Gd X p lk L σ H e (w :: st) ws) : Gd X p lk L σ H e st ws := by
  obtain ⟨S, G, A, B, g⟩ := g
  cases hs : g.stk with
  | @cons _ _ A1 B1 r rr =>
    refine ⟨S, G, A, B1, g.less g.env rr g.wk ⟨A1, ?_⟩ g.pin⟩
    rw [← List.append_assoc, ← List.append_assoc]
    exact List.Perm.append_right _ List.perm_append_comm
/-- a strong value is only read from now on -/
theorem Gd.weaken {v : V} {d : D} (g : Gd X p lk L σ H e ((v, d) :: st) ws) : Gd X p lk L σ H e st (.v v (lend d) :: ws) := by
  obtain ⟨S, G, A, B, g⟩ := g
  cases hs : g.stk with
  | @cons _ _ A1 B1 r rr =>
    refine ⟨S, G, A, B1, g.less g.env rr (fun w h => ?_) ⟨A1, ?_⟩ g.pin⟩
    · rcases List.mem_cons.mp h with rfl | h
      · exact r.lend
      · exact g.wk w h
    · rw [← List.append_assoc, ← List.append_assoc]
      exact List.Perm.append_right _ List.perm_append_comm
/-- what stands for itself -/
theorem Gd.push {v : V} {d : D} (g : Gd X p lk L σ H e st ws) (h : ∀ z G, z.K = X.K → z.gm = X.mg → Rp z G (.v v d) []) : Gd X p lk L σ H e ((v, d) :: st) ws :=
  let ⟨S, G, A, B, g⟩ := g
  ⟨S, G, A, B, g.less g.env (.cons (A := []) (h _ _ rfl rfl) g.stk) g.wk ⟨[], .refl _⟩ g.pin⟩
theorem Gd.pushW {v : V} {d : D} (g : Gd X p lk L σ H e st ws) (h : ∀ z G, z.K = X.K → z.gm = X.mg → Rp z G (.v v d) []) : Gd X p lk L σ H e st (.v v d :: ws) :=
  let ⟨S, G, A, B, g⟩ := g
  ⟨S, G, A, B, g.less g.env g.stk (fun w hw => (List.mem_cons.mp hw).elim (fun z => z ▸ h _ _ rfl rfl) (g.wk w)) ⟨[], .refl _⟩ g.pin⟩
/-- a weak value without anything to own is a strong one -/
theorem Gd.strong {v : V} {d : D} (g : Gd X p lk L σ H e st (.v v d :: ws)) (hi : imm d = true) : Gd X p lk L σ H e ((v, d) :: st) ws := by
  obtain ⟨S, G, A, B, g⟩ := g
  have r := Rp.ofImm (z' := zo X p S lk) (g.wk (.v v d) List.mem_cons_self) rfl rfl hi
  exact ⟨S, G, A, B, g.less g.env (.cons (A := []) r.1 g.stk) (fun w h => g.wk w (List.mem_cons_of_mem _ h)) ⟨[], .refl _⟩ g.pin⟩
/-- a slot read -/
theorem Gd.slotW {i : Nat} {d : D} (g : Gd X p lk L σ H e st ws) (h : e[i]? = some (some d)) : ∃ v, σ[i]? = some (some v) ∧ Gd X p lk L σ H e st (.v v (lend d) :: ws) := by
  obtain ⟨S, G, A, B, g⟩ := g
  obtain ⟨v, A1, A2, h1, h2, h3, h4⟩ := g.env.split h
  refine ⟨v, h1, S, G, A, B, g.less g.env g.stk (fun w hw => ?_) ⟨[], .refl _⟩ g.pin⟩
  rcases List.mem_cons.mp hw with rfl | hw
  · exact h2.lend
  · exact g.wk w hw
/-- moved out of its slot -/
theorem Gd.slotM {i : Nat} {d : D} (g : Gd X p lk L σ H e st ws) (h : e[i]? = some (some d)) : ∃ v, σ[i]? = some (some v) ∧ Gd X p lk L σ H (e.set i none) ((v, d) :: st) ws := by
  obtain ⟨S, G, A, B, g⟩ := g
  obtain ⟨v, A1, A2, h1, h2, h3, h4⟩ := g.env.split h
  refine ⟨v, h1, S, G, A2, A1 ++ B, g.less h4 (.cons h2 g.stk) g.wk ⟨[], ?_⟩ g.pin⟩
  show (A ++ B).Perm (A2 ++ (A1 ++ B))
  refine (List.Perm.append_right B h3).trans ?_
  rw [← List.append_assoc]
  exact List.Perm.append_right _ List.perm_append_comm
/-- a name is stored -/
theorem Gd.store {i : Nat} {v : V} {d : D} (g : Gd X p lk L σ H e ((v, d) :: st) ws) (hi : i < e.length) (h0 : p.io = none ∨ i ≠ 0) (hn : ws = [] ∨ p.nl ≤ i) : Gd X p lk L (σ.set i (some v)) H (e.set i (some d)) st ws := by
  obtain ⟨S, G, A, B, g⟩ := g
  cases hs : g.stk with
  | @cons _ _ A1 B1 r rr =>
    obtain ⟨A2, k1, C, k2⟩ := g.env.kill i
    have q : (e.set i none)[i]? = some none := List.getElem?_set_self hi
    obtain ⟨A3, k3, k4⟩ := k1.put q r
    rw [List.set_set] at k3
    refine ⟨S, G, A3, B1, g.less k3 rr (fun w hw => ?_) ⟨C, ?_⟩ fun v' hv => ?_⟩
    · rcases hn with rfl | hn
      · cases hw
      · exact (g.wk w hw).slots fun j hj => List.getElem?_set_ne (by omega)
    · show (A ++ (A1 ++ B1)).Perm (C ++ (A3 ++ B1))
      refine (List.Perm.append_right _ k2).trans ?_
      rw [List.append_assoc]
      refine List.Perm.append_left _ ?_
      rw [← List.append_assoc]
      refine List.Perm.append_right _ ?_
      exact List.perm_append_comm.trans k4.symm
    · rcases h0 with h0 | h0
      · rw [h0] at hv; cases hv
      · rw [List.getElem?_set_ne h0]; exact g.pin v' hv
/-- a name is forgotten -/
theorem Gd.kill (g : Gd X p lk L σ H e st ws) (i : Nat) : Gd X p lk L σ H (e.set i none) st ws := by
  obtain ⟨S, G, A, B, g⟩ := g
  obtain ⟨A2, k1, C, k2⟩ := g.env.kill i
  refine ⟨S, G, A2, B, g.less k1 g.stk g.wk ⟨C, ?_⟩ g.pin⟩
  rw [← List.append_assoc]
  exact List.Perm.append_right _ k2
end
end DG

set_option Elab.async false
set_option linter.all false
set_option maxHeartbeats 4000000
/-! DGc: new objects, freezing, writing at a place. -/
namespace DG
open PySem PySem.Spec PyProof.Rows L2
set_option autoImplicit false
theorem unlock_tup {L : Lk} {G : Hp} (k : LkOk L G) {a : Addr} {u : List V} (h : Rd (lockAll L G) a (.tup u)) : Rd G a (.tup u) := by
  cases hn : L.hd.lookup a with
  | some o =>
    have m := (k.hd a o hn).2
    rw [Rd, lockAll_hd hn] at h
    rcases h with h | ⟨o', h⟩ <;> (cases h; exact m.elim)
  | none =>
    cases q : L.lo.lookup a with
    | none =>
      rw [Rd, lockAll_eq hn, q] at h
      rcases h with h | ⟨o, h⟩
      · revert h; cases hg : G a with
        | none => intro h; cases h
        | some x => intro h; cases h; exact .inl hg
      · revert h; cases hg : G a with
        | none => intro h; cases h
        | some x => intro h; cases h; exact .inr ⟨o, hg⟩
    | some od =>
      obtain ⟨x, hx, mx⟩ := k.lo a od q
      rcases h with h | ⟨o, h⟩
      · rw [lockAll_at k q hx] at h; cases h
      · rw [lockAll_at k q hx] at h; cases h; exact mx.elim
section
variable {X : Kx} {p : Par} {lk : List Addr} {L : Lk} {σ : L2.St} {H : Hp} {e : Env} {st : Stk} {ws : List Wk} {S : Addr → Prop} {G : Hp} {A B : List Addr}
theorem rd_upd_new {G : Hp} {a : Addr} {o : HO} (hn : G a = none) : ∀ b u, Rd G b u → Rd (upd G a o) b u := fun b u h => by
  have hb : b ≠ a := by
    rintro rfl
    obtain ⟨o, q⟩ := rd_dom h
    rw [hn] at q; cases q
  rw [Rd, upd_ne hb]; exact h
theorem rd_upd_mut {G : Hp} {a b : Addr} {o u : HO} (hb : b ≠ a) (h : Rd G b u) : Rd (upd G a o) b u := by rw [Rd, upd_ne hb]; exact h
theorem rd_fun {H : Hp} {a : Addr} {u u' : HO} (h : Rd H a u) (h' : H a = some u') (m : Mut (some u')) : u = u' := by
  rcases h with h | ⟨o, h⟩
  · rw [h] at h'; exact Option.some.inj h'
  · rw [h] at h'; cases h'; exact m.elim
theorem GdB.free (g : GdB X p lk L σ H e st ws S G A B) {a : Addr} (h : H a = none) : G a = none ∧ (L.lo.lookup a = none ∧ L.hd.lookup a = none) ∧ a ∉ lk ∧ ¬ S a ∧ ¬ p.R0 a ∧ a ∉ A ++ B ∧ p.H0 a = none := by
  have hG : G a = none := by rw [g.hL] at h; exact (lockAll_none h).2
  have hH : L.hd.lookup a = none := by rw [g.hL] at h; exact (lockAll_none h).1
  have notd : ∀ {o}, G a ≠ some o := fun z => by rw [hG] at z; cases z
  refine ⟨hG, ⟨?_, hH⟩, fun z => ?_, fun z => ?_, fun z => ?_, fun z => ?_, ?_⟩
  · cases q : L.lo.lookup a with
    | none => rfl
    | some od => obtain ⟨u, hu, _⟩ := g.lkd.lo a od q; exact absurd hu notd
  · obtain ⟨o, q⟩ := g.lke a z; exact notd q
  · obtain ⟨_, o, q⟩ := g.sd a z; exact notd q
  · obtain ⟨⟨o, q⟩, hO⟩ := g.ok.rd a z; exact notd (g.fr a o q hO)
  · rcases List.mem_append.mp z with z | z
    · obtain ⟨u, q, _⟩ := g.env.dom a z; exact notd q
    · obtain ⟨u, q, _⟩ := g.stk.dom a z; exact notd q
  · cases q : p.H0 a with
    | none => rfl
    | some o =>
      by_cases hO : a ∈ p.O
      · obtain ⟨o, q⟩ := g.oo a hO; exact absurd q notd
      · exact absurd (g.fr a o q hO) notd
theorem RpS.toL {z : Zo} {H : Hp} {st : Stk} {A : List Addr} (h : RpS z H st A) : Rp z H (.l (st.map (·.1)) (st.map (·.2))) A := by
  induction h with
  | nil => exact .nil
  | cons r _ ih => exact .cons r ih
theorem nodup_new {a : Addr} {A B : List Addr} (h : (A ++ B).Nodup) (ha : a ∉ A ++ B) : (A ++ (a :: B)).Nodup := by
  have : (A ++ a :: B).Perm (a :: (A ++ B)) := List.perm_middle
  exact this.nodup_iff.mpr (List.nodup_cons.mpr ⟨ha, h⟩)
/-- a new object that owns the values in front -/
theorem Gd.alloc {front st0 : Stk} (g : Gd X p lk L σ H e (front ++ st0) ws) {a : Addr} (ha : H a = none) (o : HO) (d : D) (own : Bool)
    (mk : ∀ (z : Zo) (G : Hp) (B : List Addr), z.K = X.K → z.gm = X.mg → a ∉ z.lk → G a = some o → (∀ b u, Rd H b (.tup u) → Rd G b (.tup u)) → RpS z G front B → Rp z G (.v (.ref a) d) ((if own then [a] else []) ++ B)) (nfz : ∀ x u, o ≠ .frz x u := by intro x u q; cases q) :
    Gd X p lk L σ (upd H a o) e ((.ref a, d) :: st0) ws := by
  obtain ⟨S, G, A, B, g⟩ := g
  obtain ⟨f1, f2, f3, f4, f5, f6, f7⟩ := g.free ha
  have kr : ∀ b u, Rd G b u → Rd (upd G a o) b u := rd_upd_new f1
  have kA : ∀ b ∈ A ++ B, upd G a o b = G b := fun b hb => upd_ne fun z => f6 (z ▸ hb)
  have kd : ∀ b, (∃ u, G b = some u) → ∃ u, upd G a o b = some u := fun b ⟨u, q⟩ => ⟨u, by rw [upd_ne (ne_of_none q f1)]; exact q⟩
  obtain ⟨B1, B2, h1, h2, rfl⟩ := RpS.unappend g.stk
  have h1' : RpS (zo X p S lk) (upd G a o) front B1 := h1.mono (.refl _) (.of kr) fun b hb => kA b (List.mem_append_right _ (List.mem_append_left _ hb))
  have h2' : RpS (zo X p S lk) (upd G a o) st0 B2 := h2.mono (.refl _) (.of kr) fun b hb => kA b (List.mem_append_right _ (List.mem_append_right _ hb))
  have r := mk (zo X p S lk) (upd G a o) B1 rfl rfl f3 upd_same (fun b u h => kr b _ (unlock_tup g.lkd (by rw [← g.hL]; exact h))) h1'
  have eq : (if own then [a] else []) ++ B1 ++ B2 = (if own then [a] else []) ++ (B1 ++ B2) := List.append_assoc _ _ _
  have mem : ∀ b ∈ A ++ ((if own then [a] else []) ++ B1 ++ B2), b = a ∨ b ∈ A ++ (B1 ++ B2) := fun b hb => by
    rw [eq] at hb
    rcases List.mem_append.mp hb with h | h
    · exact .inr (List.mem_append_left _ h)
    · rcases List.mem_append.mp h with h | h
      · cases own
        · cases h
        · exact .inl (by simpa using h)
      · exact .inr (List.mem_append_right _ h)
  refine ⟨S, upd G a o, A, (if own then [a] else []) ++ B1 ++ B2, ⟨g.ok, by rw [g.hL, lockAll_upd f2.1 f2.2], ⟨fun b od q => ?_, fun b o q => ?_⟩, g.lkz, fun b hb => kd b (g.lke b hb), g.env.mono (.refl _) (.of kr) fun b hb => kA b (List.mem_append_left _ hb),
    .cons r h2', fun w hw => (g.wk w hw).mono kr, ?_, fun b hb => ?_, fun b hb => ?_, g.s0, fun b hb => ⟨(g.sd b hb).1, kd b (g.sd b hb).2⟩, fun b u q hO => ?_, fun b hb => kd b (g.oo b hb), g.pin, fun b hb x u => ?_⟩⟩
  · obtain ⟨u, hu, mu⟩ := g.lkd.lo b od q
    exact ⟨u, by rw [upd_ne (ne_of_none hu f1)]; exact hu, mu⟩
  · obtain ⟨h1, h2⟩ := g.lkd.hd b o q
    exact ⟨by rw [upd_ne fun z => by subst z; rw [f2.2] at q; cases q]; exact h1, h2⟩
  · rw [eq]
    cases own
    · exact g.nd
    · exact nodup_new g.nd f6
  · rcases mem b hb with rfl | h
    · exact ⟨f4, f5⟩
    · exact g.dj b h
  · rcases mem b hb with rfl | h
    · exact .inl f7
    · exact g.ow b h
  · have hb : b ≠ a := by rintro rfl; rw [f7] at q; cases q
    rw [upd_ne hb]; exact g.fr b u q hO
  · by_cases z : b = a
    · subst z; rw [upd_same]; exact fun z => nfz x u (Option.some.inj z)
    · rw [upd_ne z]; exact g.nf b hb x u
/-- a slot is read for good: it is frozen -/
theorem Gd.slotS {i : Nat} {d : D} {io : Bool} (g : Gd X p lk L σ H e st ws) (h : e[i]? = some (some d)) (hl : allF noLk d = true) (hio : io = false → p.O = []) :
    ∃ v, σ[i]? = some (some v) ∧ Gd X p lk L σ H (e.set i (some (share io d))) ((v, share io d) :: st) ws := by
  obtain ⟨S, G, A, B, g⟩ := g
  obtain ⟨v, A1, A2, h1, h2, h3, h4⟩ := g.env.split h
  let S' : Addr → Prop := fun a => S a ∨ a ∈ A1
  have hA1 : ∀ a ∈ A1, a ∈ A ++ B := fun a ha => List.mem_append_left _ (h3.mem_iff.mpr (List.mem_append_left _ ha))
  have zl : ZLe (zo X p S lk) (zo X p S' lk) := ⟨rfl, rfl, fun a h => .inl h, fun _ h => h, fun _ _ h => h, rfl⟩
  have hnd : (A1 ++ (A2 ++ B)).Nodup := by
    rw [← List.append_assoc]
    exact (List.Perm.append_right B h3).nodup_iff.mp g.nd
  have hdis : ∀ a ∈ A2 ++ B, a ∉ A1 := fun a ha hb => (List.nodup_append.mp hnd).2.2 a hb a ha rfl
  have sub : ∀ a ∈ A2 ++ B, a ∈ A ++ B := fun a ha => (List.mem_append.mp ha).elim (fun z => List.mem_append_left _ (h3.mem_iff.mpr (List.mem_append_right _ z))) fun z => List.mem_append_right _ z
  have r : Rp (zo X p S' lk) G (.v v (share io d)) [] := h2.remark (P := noLk) (m := shF io) rfl rfl hl fun f a hf o hu hA => by
    cases f with
    | own =>
      have ha : a ∈ A1 := hA a (by simp [FlA])
      cases io with
      | true => exact ⟨rfl, .inr ha⟩
      | false =>
        refine ⟨rfl, .inr ha, ?_⟩
        rcases g.ow a (hA1 a ha) with q | q
        · exact q
        · rw [hio rfl] at q; cases q
    | fr => exact ⟨rfl, .inl o.1, o.2⟩
    | sh => exact ⟨rfl, .inl o⟩
    | ro => exact ⟨rfl, o⟩
    | lk n => simp [noLk] at hf
  have henv : ∃ A3, RpE (zo X p S' lk) G σ (e.set i (some (share io d))) A3 ∧ A3.Perm A2 := by
    have hlen : i < e.length := (List.getElem?_eq_some_iff.mp h).1
    obtain ⟨A3, k3, k4⟩ := (h4.mono zl .refl fun _ _ => rfl).put (List.getElem?_set_self hlen) r
    rw [List.set_set] at k3
    have e1 : σ.set i (some v) = σ := by
      apply List.ext_getElem?
      intro j
      by_cases hj : j = i
      · subst hj; rw [List.getElem?_set_self (List.getElem?_eq_some_iff.mp h1).1, h1]
      · rw [List.getElem?_set_ne (Ne.symm hj)]
    rw [e1] at k3
    exact ⟨A3, k3, k4⟩
  obtain ⟨A3, k3, k4⟩ := henv
  have sub3 : ∀ a ∈ A3 ++ B, a ∈ A2 ++ B := fun a ha => (List.mem_append.mp ha).elim (fun z => List.mem_append_left _ (k4.mem_iff.mp z)) fun z => List.mem_append_right _ z
  refine ⟨v, h1, S', G, A3, B, ⟨g.ok, g.hL, g.lkd, fun a od q => (g.lkz a od q).elim (fun z => .inl (.inl z)) .inr, g.lke, k3, .cons (A := []) r (g.stk.mono zl .refl fun _ _ => rfl), g.wk,
    (List.Perm.append_right B k4).nodup_iff.mpr (List.nodup_append.mp hnd).2.1, fun a ha => ⟨fun q => q.elim (g.dj a (sub a (sub3 a ha))).1 (hdis a (sub3 a ha)), (g.dj a (sub a (sub3 a ha))).2⟩, fun a ha => g.ow a (sub a (sub3 a ha)), fun a ha => .inl (g.s0 a ha), fun a ha => ?_, g.fr, g.oo, g.pin, g.nf⟩⟩
  rcases ha with ha | ha
  · exact g.sd a ha
  · refine ⟨?_, ?_⟩
    · rcases g.ow a (hA1 a ha) with q | q
      · exact .inr (.inl q)
      · exact .inr (.inr q)
    · obtain ⟨u, hu, _⟩ := h2.dom a ha
      exact ⟨u, hu⟩
end
end DG

set_option Elab.async false
set_option linter.all false
set_option maxHeartbeats 4000000
/-! DGd: places (a slot, then fields, keys, items), what stands there, writing there. -/
namespace DG
open PySem PySem.Spec PyProof.Rows L2
set_option autoImplicit false
/-! ### lists of pairs -/
section
variable {κ α : Type} [DecidableEq κ]
def repA : List (κ × α) → κ → α → List (κ × α)
  | [], _, _ => []
  | (k', a) :: r, k, b => if k' = k then (k', b) :: r else (k', a) :: repA r k b
def setA (l : List (κ × α)) (k : κ) (b : α) : List (κ × α) := if (getA l k).isSome then repA l k b else l ++ [(k, b)]
theorem repA_keys (l : List (κ × α)) (k : κ) (b : α) : (repA l k b).map (·.1) = l.map (·.1) := by
  induction l with
  | nil => rfl
  | cons p r ih =>
    obtain ⟨k', a⟩ := p
    unfold repA
    by_cases h : k' = k
    · rw [if_pos h]; rfl
    · rw [if_neg h, List.map_cons, List.map_cons, ih]
theorem getA_none (l : List (κ × α)) (k : κ) : getA l k = none ↔ k ∉ l.map (·.1) := by
  induction l with
  | nil => simp [getA]
  | cons p r ih =>
    obtain ⟨k', a⟩ := p
    unfold getA
    by_cases h : k' = k
    · simp [h]
    · rw [if_neg h, ih]
      simp [Ne.symm h]
theorem repA_same {l : List (κ × α)} {k : κ} {b : α} (h : getA l k = some b) : repA l k b = l := by
  induction l with
  | nil => rfl
  | cons p r ih =>
    obtain ⟨k', a⟩ := p
    unfold getA at h
    unfold repA
    by_cases e : k' = k
    · rw [if_pos e] at h ⊢; cases h; rfl
    · rw [if_neg e] at h ⊢; rw [ih h]
theorem setA_nodup {l : List (κ × α)} (k : κ) (b : α) (h : (l.map (·.1)).Nodup) : ((setA l k b).map (·.1)).Nodup := by
  unfold setA
  cases q : getA l k with
  | some a =>
    rw [show (some a).isSome = true from rfl, if_pos rfl, repA_keys]; exact h
  | none =>
    rw [show (none : Option α).isSome = false from rfl, if_neg Bool.false_ne_true, List.map_append]
    refine List.nodup_append.mpr ⟨h, by simp, fun x hx y hy => ?_⟩
    have : y = k := by simpa using hy
    subst this
    rintro rfl
    exact (getA_none l _).mp q hx
theorem valV_getA (l : List (κ × V)) (k : κ) : valV l k = getA l k := by
  induction l with
  | nil => rfl
  | cons p r ih =>
    obtain ⟨k', a⟩ := p
    unfold getA
    by_cases e : k' = k
    · rw [if_pos e, valV_pos e]
    · rw [if_neg e, valV_neg e, ih]
theorem rep_map {l : List (κ × V)} {k : κ} (b : V) (h : (l.map (·.1)).Nodup) : (l.map fun kv => if kv.1 = k then (kv.1, b) else kv) = repA l k b := by
  induction l with
  | nil => rfl
  | cons p r ih =>
    obtain ⟨k', a⟩ := p
    rw [List.map_cons, List.nodup_cons] at h
    unfold repA
    by_cases e : k' = k
    · subst e
      rw [List.map_cons, if_pos rfl, if_pos rfl]
      congr 1
      refine (List.map_congr_left fun q hq => ?_).trans (List.map_id _)
      rw [if_neg]
      · rfl
      · intro z; exact h.1 (List.mem_map.mpr ⟨q, hq, z⟩)
    · rw [List.map_cons, if_neg e, if_neg e, ih h.2]
theorem putK_setA {l : List (κ × V)} {k : κ} (b : V) (h : (l.map (·.1)).Nodup) : putK l k b = setA l k b := by
  unfold putK setA
  rw [valV_any, valV_getA]
  by_cases q : (getA l k).isSome = true
  · rw [if_pos q, if_pos q]; exact rep_map b h
  · rw [if_neg q, if_neg q]
end
def getS : D → Stp → Option D
  | .ins _ _ fs, .fld f => getA fs f
  | .dk _ ks, .key k => getA ks k
  | .dt _ ks, .kt k => getA ks k
  | .lst _ ds, .ix n => ds[n]?
  | .tup ds, .ix n => ds[n]?
  | _, _ => none
def setS : D → Stp → D → D
  | .ins f c fs, .fld x, d => .ins f c (repA fs x d)
  | .dk f ks, .key k, d => .dk f (repA ks k d)
  | .dt f ks, .kt k, d => .dt f (repA ks k d)
  | .lst f ds, .ix n, d => .lst f (ds.set n d)
  | .tup ds, .ix n, d => .tup (ds.set n d)
  | c, _, _ => c
def getP : D → Pth → Option D
  | d, [] => some d
  | d, s :: r => (getS d s).bind fun c => getP c r
def setP : D → Pth → D → D
  | _, [], d' => d'
  | d, s :: r, d' => match getS d s with
    | some c => setS d s (setP c r d')
    | none => d
theorem allFL_get {p : Fl → Bool} : ∀ {ds : List D} {n : Nat} {d : D}, allFL p ds = true → ds[n]? = some d → allF p d = true
  | [], n, d, _, h => by simp at h
  | d0 :: r, 0, d, q, h => by
    have e := Option.some.inj h
    subst e
    simp only [allFL, Bool.and_eq_true] at q; exact q.1
  | d0 :: r, n + 1, d, q, h => by
    simp only [allFL, Bool.and_eq_true] at q
    exact allFL_get q.2 (by simpa using h)
theorem getS_imm {d c : D} {s : Stp} (h : getS d s = some c) (n : imm c = false) : imm d = false := by
  cases hd : imm d with
  | false => rfl
  | true =>
    cases d <;> simp only [imm, allF, Bool.false_and, Bool.false_eq_true] at hd
    all_goals (cases s <;> simp only [getS, reduceCtorEq] at h)
    rw [show imm c = true from allFL_get hd h] at n
    cases n
theorem getP_imm : ∀ {π : Pth} {d c : D}, getP d π = some c → imm c = false → imm d = false
  | [], d, c, h, n => by cases h; exact n
  | s :: r, d, c, h, n => by
    unfold getP at h
    cases q : getS d s with
    | none => rw [q] at h; cases h
    | some x => rw [q] at h; exact getS_imm q (getP_imm (π := r) h n)
theorem rd_inj {H : Hp} {a : Addr} {u u' : HO} (h : Rd H a u) (h' : Rd H a u') (n : ∀ o x, u ≠ .frz o x) (n' : ∀ o x, u' ≠ .frz o x) : u = u' := by
  rcases h with h | ⟨o, h⟩ <;> rcases h' with h' | ⟨o', h'⟩ <;> rw [h] at h'
  · exact Option.some.inj h'
  · cases h'; exact absurd rfl (n _ _)
  · cases h'; exact absurd rfl (n' _ _)
  · cases h'; rfl

/-- one item of a list of values -/
theorem Rp.focL {z : Zo} {H : Hp} : ∀ {xs : List V} {ds : List D} {A : List Addr} {n : Nat} {d0 : D}, Rp z H (.l xs ds) A → ds[n]? = some d0 →
    ∃ v0 A0 A1, xs[n]? = some v0 ∧ Rp z H (.v v0 d0) A0 ∧ A.Perm (A0 ++ A1) ∧
      ∀ (z' : Zo) (H' : Hp) (v' : V) (d' : D) (A0' : List Addr), ZLe z z' → HLe z H H' → (∀ a ∈ A1, H' a = H a) → Rp z' H' (.v v' d') A0' → ∃ A', Rp z' H' (.l (xs.set n v') (ds.set n d')) A' ∧ A'.Perm (A0' ++ A1)
  | _, _, _, n, d0, .nil, h => by simp at h
  | _, _, _, 0, d0, .cons (v := v) (vs := vs) (ds := ds) (A := A) (B := B) r rr, h => by
    have e := Option.some.inj h
    subst e
    exact ⟨v, A, B, rfl, r, .refl _, fun z' H' v' d' A0' k kh kA r' => ⟨A0' ++ B, .cons r' (rr.mono k kh kA), .refl _⟩⟩
  | _, _, _, n + 1, d0, .cons (v := v) (vs := vs) (ds := ds) (A := A) (B := B) r rr, h => by
    obtain ⟨v0, A0, A1, h1, h2, h3, h4⟩ := Rp.focL (n := n) rr (by simpa using h)
    refine ⟨v0, A0, A ++ A1, by simpa using h1, h2, ?_, fun z' H' v' d' A0' k kh kA r' => ?_⟩
    · refine (List.Perm.append_left A h3).trans ?_
      rw [← List.append_assoc, ← List.append_assoc]
      exact List.Perm.append_right _ List.perm_append_comm
    · obtain ⟨A', q1, q2⟩ := h4 z' H' v' d' A0' k kh (fun a ha => kA a (List.mem_append_right _ ha)) r'
      refine ⟨A ++ A', .cons (r.mono k kh fun a ha => kA a (List.mem_append_left _ ha)) q1, (List.Perm.append_left A q2).trans ?_⟩
      rw [← List.append_assoc, ← List.append_assoc]
      exact List.Perm.append_right _ List.perm_append_comm
theorem Rp.lenL {z : Zo} {H : Hp} : ∀ {xs : List V} {ds : List D} {A : List Addr}, Rp z H (.l xs ds) A → xs.length = ds.length
  | _, _, _, .nil => rfl
  | _, _, _, .cons _ rr => by simp [Rp.lenL rr]
theorem Rp.appL {z : Zo} {H : Hp} : ∀ {xs ys : List V} {ds es : List D} {A B : List Addr}, Rp z H (.l xs ds) A → Rp z H (.l ys es) B → Rp z H (.l (xs ++ ys) (ds ++ es)) (A ++ B)
  | _, _, _, _, _, _, .nil, r => r
  | _, _, _, _, _, _, .cons r rr, q => by rw [List.append_assoc]; exact .cons r (Rp.appL rr q)
theorem Rp.unappL {z : Zo} {H : Hp} : ∀ {ds es : List D} {zs : List V} {A : List Addr}, Rp z H (.l zs (ds ++ es)) A → ∃ xs ys A1 A2, zs = xs ++ ys ∧ A = A1 ++ A2 ∧ Rp z H (.l xs ds) A1 ∧ Rp z H (.l ys es) A2
  | [], es, zs, A, h => ⟨[], zs, [], A, rfl, rfl, .nil, h⟩
  | d :: ds, es, _, _, .cons (v := v) (A := A) r rr => by
    obtain ⟨xs, ys, A1, A2, e1, e2, h1, h2⟩ := Rp.unappL rr
    subst e1; subst e2
    exact ⟨v :: xs, ys, A ++ A1, A2, rfl, by rw [List.append_assoc], .cons r h1, h2⟩

theorem Rp.focK {z : Zo} {H : Hp} : ∀ {ks : List (Key × V)} {es : List (Key × D)} {A : List Addr} {k : Key} {d0 : D}, Rp z H (.k ks es) A → getA es k = some d0 →
    ∃ v0 A0 A1, getA ks k = some v0 ∧ Rp z H (.v v0 d0) A0 ∧ A.Perm (A0 ++ A1) ∧
      ∀ (z' : Zo) (H' : Hp) (v' : V) (d' : D) (A0' : List Addr), ZLe z z' → HLe z H H' → (∀ a ∈ A1, H' a = H a) → Rp z' H' (.v v' d') A0' → ∃ A', Rp z' H' (.k (repA ks k v') (repA es k d')) A' ∧ A'.Perm (A0' ++ A1)
  | _, _, _, k, d0, .knil, h => by simp [getA] at h
  | _, _, _, k, d0, .kcons (k := k') (v := v) (vs := vs) (ds := ds) (A := A) (B := B) r rr, h => by
    by_cases e : k' = k
    · subst e
      unfold getA at h
      rw [if_pos rfl] at h
      have e := Option.some.inj h
      subst e
      exact ⟨v, A, B, by unfold getA; rw [if_pos rfl], r, .refl _, fun z' H' v' d' A0' kk kh kA r' => ⟨A0' ++ B, by unfold repA; rw [if_pos rfl, if_pos rfl]; exact .kcons r' (rr.mono kk kh kA), .refl _⟩⟩
    · unfold getA at h
      rw [if_neg e] at h
      obtain ⟨v0, A0, A1, h1, h2, h3, h4⟩ := Rp.focK rr h
      refine ⟨v0, A0, A ++ A1, by unfold getA; rw [if_neg e]; exact h1, h2, ?_, fun z' H' v' d' A0' kk kh kA r' => ?_⟩
      · refine (List.Perm.append_left A h3).trans ?_
        rw [← List.append_assoc, ← List.append_assoc]
        exact List.Perm.append_right _ List.perm_append_comm
      · obtain ⟨A', q1, q2⟩ := h4 z' H' v' d' A0' kk kh (fun a ha => kA a (List.mem_append_right _ ha)) r'
        refine ⟨A ++ A', by unfold repA; rw [if_neg e, if_neg e]; exact .kcons (r.mono kk kh fun a ha => kA a (List.mem_append_left _ ha)) q1, (List.Perm.append_left A q2).trans ?_⟩
        rw [← List.append_assoc, ← List.append_assoc]
        exact List.Perm.append_right _ List.perm_append_comm
theorem Rp.keysK {z : Zo} {H : Hp} : ∀ {ks : List (Key × V)} {es : List (Key × D)} {A : List Addr}, Rp z H (.k ks es) A → ks.map (·.1) = es.map (·.1)
  | _, _, _, .knil => rfl
  | _, _, _, .kcons _ rr => by simp [Rp.keysK rr]
theorem Rp.nonK {z : Zo} {H : Hp} {ks : List (Key × V)} {es : List (Key × D)} {A : List Addr} {k : Key} (r : Rp z H (.k ks es) A) (h : getA es k = none) : getA ks k = none := by
  rw [getA_none] at h ⊢
  rw [r.keysK]; exact h
theorem Rp.appK {z : Zo} {H : Hp} : ∀ {xs ys : List (Key × V)} {ds es : List (Key × D)} {A B : List Addr}, Rp z H (.k xs ds) A → Rp z H (.k ys es) B → Rp z H (.k (xs ++ ys) (ds ++ es)) (A ++ B)
  | _, _, _, _, _, _, .knil, r => r
  | _, _, _, _, _, _, .kcons r rr, q => by rw [List.append_assoc]; exact .kcons r (Rp.appK rr q)

theorem Rp.focT {z : Zo} {H : Hp} : ∀ {ks : List (List Key × V)} {es : List (List Key × D)} {A : List Addr} {k : List Key} {d0 : D}, Rp z H (.t ks es) A → getA es k = some d0 →
    ∃ v0 A0 A1, getA ks k = some v0 ∧ Rp z H (.v v0 d0) A0 ∧ A.Perm (A0 ++ A1) ∧
      ∀ (z' : Zo) (H' : Hp) (v' : V) (d' : D) (A0' : List Addr), ZLe z z' → HLe z H H' → (∀ a ∈ A1, H' a = H a) → Rp z' H' (.v v' d') A0' → ∃ A', Rp z' H' (.t (repA ks k v') (repA es k d')) A' ∧ A'.Perm (A0' ++ A1)
  | _, _, _, k, d0, .tnil, h => by simp [getA] at h
  | _, _, _, k, d0, .tcons (k := k') (v := v) (vs := vs) (ds := ds) (A := A) (B := B) r rr, h => by
    by_cases e : k' = k
    · subst e
      unfold getA at h
      rw [if_pos rfl] at h
      have e := Option.some.inj h
      subst e
      exact ⟨v, A, B, by unfold getA; rw [if_pos rfl], r, .refl _, fun z' H' v' d' A0' kk kh kA r' => ⟨A0' ++ B, by unfold repA; rw [if_pos rfl, if_pos rfl]; exact .tcons r' (rr.mono kk kh kA), .refl _⟩⟩
    · unfold getA at h
      rw [if_neg e] at h
      obtain ⟨v0, A0, A1, h1, h2, h3, h4⟩ := Rp.focT rr h
      refine ⟨v0, A0, A ++ A1, by unfold getA; rw [if_neg e]; exact h1, h2, ?_, fun z' H' v' d' A0' kk kh kA r' => ?_⟩
      · refine (List.Perm.append_left A h3).trans ?_
        rw [← List.append_assoc, ← List.append_assoc]
        exact List.Perm.append_right _ List.perm_append_comm
      · obtain ⟨A', q1, q2⟩ := h4 z' H' v' d' A0' kk kh (fun a ha => kA a (List.mem_append_right _ ha)) r'
        refine ⟨A ++ A', by unfold repA; rw [if_neg e, if_neg e]; exact .tcons (r.mono kk kh fun a ha => kA a (List.mem_append_left _ ha)) q1, (List.Perm.append_left A q2).trans ?_⟩
        rw [← List.append_assoc, ← List.append_assoc]
        exact List.Perm.append_right _ List.perm_append_comm
theorem Rp.keysT {z : Zo} {H : Hp} : ∀ {ks : List (List Key × V)} {es : List (List Key × D)} {A : List Addr}, Rp z H (.t ks es) A → ks.map (·.1) = es.map (·.1)
  | _, _, _, .tnil => rfl
  | _, _, _, .tcons _ rr => by simp [Rp.keysT rr]
theorem Rp.nonT {z : Zo} {H : Hp} {ks : List (List Key × V)} {es : List (List Key × D)} {A : List Addr} {k : List Key} (r : Rp z H (.t ks es) A) (h : getA es k = none) : getA ks k = none := by
  rw [getA_none] at h ⊢
  rw [r.keysT]; exact h
theorem Rp.appT {z : Zo} {H : Hp} : ∀ {xs ys : List (List Key × V)} {ds es : List (List Key × D)} {A B : List Addr}, Rp z H (.t xs ds) A → Rp z H (.t ys es) B → Rp z H (.t (xs ++ ys) (ds ++ es)) (A ++ B)
  | _, _, _, _, _, _, .tnil, r => r
  | _, _, _, _, _, _, .tcons r rr, q => by rw [List.append_assoc]; exact .tcons r (Rp.appT rr q)

theorem Rp.focF {z : Zo} {H : Hp} : ∀ {ks : List (Str × V)} {es : List (Str × D)} {A : List Addr} {k : Str} {d0 : D}, Rp z H (.s ks es) A → getA es k = some d0 →
    ∃ v0 A0 A1, getA ks k = some v0 ∧ Rp z H (.v v0 d0) A0 ∧ A.Perm (A0 ++ A1) ∧
      ∀ (z' : Zo) (H' : Hp) (v' : V) (d' : D) (A0' : List Addr), ZLe z z' → HLe z H H' → (∀ a ∈ A1, H' a = H a) → Rp z' H' (.v v' d') A0' → ∃ A', Rp z' H' (.s (repA ks k v') (repA es k d')) A' ∧ A'.Perm (A0' ++ A1)
  | _, _, _, k, d0, .snil, h => by simp [getA] at h
  | _, _, _, k, d0, .scons (k := k') (v := v) (vs := vs) (ds := ds) (A := A) (B := B) r rr, h => by
    by_cases e : k' = k
    · subst e
      unfold getA at h
      rw [if_pos rfl] at h
      have e := Option.some.inj h
      subst e
      exact ⟨v, A, B, by unfold getA; rw [if_pos rfl], r, .refl _, fun z' H' v' d' A0' kk kh kA r' => ⟨A0' ++ B, by unfold repA; rw [if_pos rfl, if_pos rfl]; exact .scons r' (rr.mono kk kh kA), .refl _⟩⟩
    · unfold getA at h
      rw [if_neg e] at h
      obtain ⟨v0, A0, A1, h1, h2, h3, h4⟩ := Rp.focF rr h
      refine ⟨v0, A0, A ++ A1, by unfold getA; rw [if_neg e]; exact h1, h2, ?_, fun z' H' v' d' A0' kk kh kA r' => ?_⟩
      · refine (List.Perm.append_left A h3).trans ?_
        rw [← List.append_assoc, ← List.append_assoc]
        exact List.Perm.append_right _ List.perm_append_comm
      · obtain ⟨A', q1, q2⟩ := h4 z' H' v' d' A0' kk kh (fun a ha => kA a (List.mem_append_right _ ha)) r'
        refine ⟨A ++ A', by unfold repA; rw [if_neg e, if_neg e]; exact .scons (r.mono kk kh fun a ha => kA a (List.mem_append_left _ ha)) q1, (List.Perm.append_left A q2).trans ?_⟩
        rw [← List.append_assoc, ← List.append_assoc]
        exact List.Perm.append_right _ List.perm_append_comm
theorem Rp.keysF {z : Zo} {H : Hp} : ∀ {ks : List (Str × V)} {es : List (Str × D)} {A : List Addr}, Rp z H (.s ks es) A → ks.map (·.1) = es.map (·.1)
  | _, _, _, .snil => rfl
  | _, _, _, .scons _ rr => by simp [Rp.keysF rr]
theorem Rp.nonF {z : Zo} {H : Hp} {ks : List (Str × V)} {es : List (Str × D)} {A : List Addr} {k : Str} (r : Rp z H (.s ks es) A) (h : getA es k = none) : getA ks k = none := by
  rw [getA_none] at h ⊢
  rw [r.keysF]; exact h
theorem Rp.appF {z : Zo} {H : Hp} : ∀ {xs ys : List (Str × V)} {ds es : List (Str × D)} {A B : List Addr}, Rp z H (.s xs ds) A → Rp z H (.s ys es) B → Rp z H (.s (xs ++ ys) (ds ++ es)) (A ++ B)
  | _, _, _, _, _, _, .snil, r => r
  | _, _, _, _, _, _, .scons r rr, q => by rw [List.append_assoc]; exact .scons r (Rp.appF rr q)

/-- one step further in, the rest apart -/
theorem Rp.focS {z : Zo} {H : Hp} {v : V} {d d0 : D} {A : List Addr} {s : Stp} (h : Rp z H (.v v d) A) (q : getS d s = some d0) (ni : imm d0 = false) :
    ∃ v0 A0 A1, VS H v s v0 ∧ Rp z H (.v v0 d0) A0 ∧ A.Perm (A0 ++ A1) ∧
      ∀ (z' : Zo) (H' : Hp) (d' : D) (A0' : List Addr), ZLe z z' → HLe z H H' → (∀ a ∈ A1, H' a = H a) → Rp z' H' (.v v0 d') A0' → ∃ A', Rp z' H' (.v v (setS d s d')) A' ∧ A'.Perm (A0' ++ A1) := by
  have sw : ∀ {P Q R : List Addr}, (P ++ (Q ++ R)).Perm (Q ++ (P ++ R)) := fun {P Q R} => by
    rw [← List.append_assoc, ← List.append_assoc]
    exact List.Perm.append_right _ List.perm_append_comm
  cases h with
  | @tup a xs ds _ t r =>
    cases s with
    | ix n =>
      obtain ⟨v0, A0, A1, h1, h2, h3, h4⟩ := r.focL q
      have t : Rd H a (.tup xs) := t
      refine ⟨v0, A0, A1, ⟨a, xs, rfl, .inr t, h1⟩, h2, h3, fun z' H' d' A0' k kh kA r' => ?_⟩
      obtain ⟨A', q1, q2⟩ := h4 z' H' v0 d' A0' k kh kA r'
      have e : xs.set n v0 = xs := by
        apply List.ext_getElem?
        intro j
        by_cases hj : j = n
        · subst hj; rw [List.getElem?_set_self (List.getElem?_eq_some_iff.mp h1).1, h1]
        · rw [List.getElem?_set_ne (Ne.symm hj)]
      rw [e] at q1
      exact ⟨A', .tup (kh.t _ _ t) q1, q2⟩
    | _ => simp [getS] at q
  | @lst f a xs ds B at0 o r =>
    cases s with
    | ix n =>
      obtain ⟨v0, A0, A1, h1, h2, h3, h4⟩ := r.focL q
      refine ⟨v0, A0, FlA f a ++ A1, ⟨a, xs, rfl, .inl at0.rd, h1⟩, h2, (List.Perm.append_left _ h3).trans sw, fun z' H' d' A0' k kh kA r' => ?_⟩
      obtain ⟨A', q1, q2⟩ := h4 z' H' v0 d' A0' k kh (fun a ha => kA a (List.mem_append_right _ ha)) r'
      have e : xs.set n v0 = xs := by
        apply List.ext_getElem?
        intro j
        by_cases hj : j = n
        · subst hj; rw [List.getElem?_set_self (List.getElem?_eq_some_iff.mp h1).1, h1]
        · rw [List.getElem?_set_ne (Ne.symm hj)]
      rw [e] at q1
      exact ⟨FlA f a ++ A', .lst (at0.mono o kh kA) (o.mono k) q1, (List.Perm.append_left _ q2).trans sw⟩
    | _ => simp [getS] at q
  | @dk f a ks es B at0 o n r =>
    cases s with
    | key kk =>
      obtain ⟨v0, A0, A1, h1, h2, h3, h4⟩ := r.focK q
      refine ⟨v0, A0, FlA f a ++ A1, ⟨a, ks, rfl, at0.rd, h1⟩, h2, (List.Perm.append_left _ h3).trans sw, fun z' H' d' A0' k kh kA r' => ?_⟩
      obtain ⟨A', q1, q2⟩ := h4 z' H' v0 d' A0' k kh (fun a ha => kA a (List.mem_append_right _ ha)) r'
      rw [repA_same h1] at q1
      exact ⟨FlA f a ++ A', .dk (at0.mono o kh kA) (o.mono k) (by rw [repA_keys]; exact n) q1, (List.Perm.append_left _ q2).trans sw⟩
    | _ => simp [getS] at q
  | @dt f a ks es B at0 o n r =>
    cases s with
    | kt kk =>
      obtain ⟨v0, A0, A1, h1, h2, h3, h4⟩ := r.focT q
      refine ⟨v0, A0, FlA f a ++ A1, ⟨a, ks, rfl, at0.rd, h1⟩, h2, (List.Perm.append_left _ h3).trans sw, fun z' H' d' A0' k kh kA r' => ?_⟩
      obtain ⟨A', q1, q2⟩ := h4 z' H' v0 d' A0' k kh (fun a ha => kA a (List.mem_append_right _ ha)) r'
      rw [repA_same h1] at q1
      exact ⟨FlA f a ++ A', .dt (at0.mono o kh kA) (o.mono k) (by rw [repA_keys]; exact n) q1, (List.Perm.append_left _ q2).trans sw⟩
    | _ => simp [getS] at q
  | @ins f a C dx c fs es B at0 o e r =>
    cases s with
    | fld kk =>
      obtain ⟨v0, A0, A1, h1, h2, h3, h4⟩ := r.focF q
      refine ⟨v0, A0, FlA f a ++ A1, ⟨a, C, dx, fs, rfl, at0.rd, h1⟩, h2, (List.Perm.append_left _ h3).trans sw, fun z' H' d' A0' k kh kA r' => ?_⟩
      obtain ⟨A', q1, q2⟩ := h4 z' H' v0 d' A0' k kh (fun a ha => kA a (List.mem_append_right _ ha)) r'
      rw [repA_same h1] at q1
      exact ⟨FlA f a ++ A', .ins (at0.mono o kh kA) (o.mono k) (by rw [k.gm]; exact e) q1, (List.Perm.append_left _ q2).trans sw⟩
    | _ => simp [getS] at q
  | non => simp [getS] at q
  | bl => simp [getS] at q
  | int => simp [getS] at q
  | str => simp [getS] at q
  | ty => simp [getS] at q
  | fn => simp [getS] at q
theorem Rp.focP {z : Zo} {H : Hp} : ∀ {π : Pth} {v : V} {d d0 : D} {A : List Addr}, Rp z H (.v v d) A → getP d π = some d0 → imm d0 = false →
    ∃ v0 A0 A1, VP H v π v0 ∧ Rp z H (.v v0 d0) A0 ∧ A.Perm (A0 ++ A1) ∧
      ∀ (z' : Zo) (H' : Hp) (d' : D) (A0' : List Addr), ZLe z z' → HLe z H H' → (∀ a ∈ A1, H' a = H a) → Rp z' H' (.v v0 d') A0' → ∃ A', Rp z' H' (.v v (setP d π d')) A' ∧ A'.Perm (A0' ++ A1)
  | [], v, d, d0, A, h, q, _ => by
    have e := Option.some.inj q
    subst e
    exact ⟨v, A, [], rfl, h, by simp, fun z' H' d' A0' k kh kA r' => ⟨A0', r', by simp⟩⟩
  | s :: π, v, d, d0, A, h, q, ni => by
    unfold getP at q
    cases hs : getS d s with
    | none => rw [hs] at q; cases q
    | some c =>
      rw [hs] at q
      obtain ⟨v1, B0, B1, h1, h2, h3, h4⟩ := h.focS hs (getP_imm q ni)
      obtain ⟨v0, A0, A1, k1, k2, k3, k4⟩ := Rp.focP (π := π) h2 q ni
      refine ⟨v0, A0, A1 ++ B1, ⟨v1, h1, k1⟩, k2, ?_, fun z' H' d' A0' k kh kA r' => ?_⟩
      · rw [← List.append_assoc]
        exact h3.trans (List.Perm.append_right _ k3)
      · obtain ⟨A', q1, q2⟩ := k4 z' H' d' A0' k kh (fun a ha => kA a (List.mem_append_left _ ha)) r'
        obtain ⟨A'', q3, q4⟩ := h4 z' H' _ A' k kh (fun a ha => kA a (List.mem_append_right _ ha)) q1
        refine ⟨A'', ?_, q4.trans ?_⟩
        · unfold setP; rw [hs]; exact q3
        · rw [← List.append_assoc]
          exact List.Perm.append_right _ q2
end DG

set_option Elab.async false
set_option linter.all false
set_option maxHeartbeats 4000000
/-! DGe: an own object is changed where it stands. -/
namespace DG
open PySem PySem.Spec PyProof.Rows L2
set_option autoImplicit false
theorem VS.inj {H : Hp} {v x y : V} {s : Stp} (h : VS H v s x) (h' : VS H v s y) : x = y := by
  cases s with
  | fld f =>
    obtain ⟨a, C, dx, fs, e, r, q⟩ := h
    obtain ⟨a', C', dx', fs', e', r', q'⟩ := h'
    rw [e] at e'; cases e'
    cases rd_inj r r' (by intros; simp) (by intros; simp)
    rw [q] at q'; exact Option.some.inj q'
  | key f =>
    obtain ⟨a, fs, e, r, q⟩ := h
    obtain ⟨a', fs', e', r', q'⟩ := h'
    rw [e] at e'; cases e'
    cases rd_inj r r' (by intros; simp) (by intros; simp)
    rw [q] at q'; exact Option.some.inj q'
  | kt f =>
    obtain ⟨a, fs, e, r, q⟩ := h
    obtain ⟨a', fs', e', r', q'⟩ := h'
    rw [e] at e'; cases e'
    cases rd_inj r r' (by intros; simp) (by intros; simp)
    rw [q] at q'; exact Option.some.inj q'
  | ix n =>
    obtain ⟨a, xs, e, r, q⟩ := h
    obtain ⟨a', xs', e', r', q'⟩ := h'
    rw [e] at e'; cases e'
    have : xs = xs' := by
      rcases r with r | r <;> rcases r' with r' | r' <;> cases rd_inj r r' (by intros; simp) (by intros; simp)
      · rfl
      · rfl
    subst this
    rw [q] at q'; exact Option.some.inj q'
theorem VP.inj {H : Hp} : ∀ {π : Pth} {v x y : V}, VP H v π x → VP H v π y → x = y
  | [], v, x, y, h, h' => by rw [show x = v from h, show y = v from h']
  | s :: π, v, x, y, ⟨a, h1, h2⟩, ⟨b, h3, h4⟩ => by
    have e := h1.inj h3
    subst e
    exact VP.inj h2 h4
def topF : D → Option Fl
  | .lst f _ => some f | .dk f _ => some f | .dt f _ => some f | .ins f _ _ => some f | .exc f _ _ => some f
  | _ => none
theorem topF_ni {d : D} {f : Fl} (h : topF d = some f) : imm d = false := by
  cases d <;> first | rfl | (simp [topF] at h)
section
variable {X : Kx} {p : Par} {lk : List Addr} {L : Lk} {σ : L2.St} {H : Hp} {e : Env} {st0 front : Stk} {ws : List Wk} {S : Addr → Prop} {G : Hp} {A B : List Addr}
theorem lockAll_vp {L : Lk} {G : Hp} (k : LkOk L G) {π : Pth} {v x : V} (h : VP G v π x) : VP (lockAll L G) v π x := h.mono fun _ _ => lockAll_rd k
/-- the object at a, own, is changed -/
theorem Gd.change (g : Gd X p lk L σ H e (front ++ st0) ws) {i : Nat} {d d0 : D} {π : Pth} (h : e[i]? = some (some d)) (hp : getP d π = some d0) (ho : topF d0 = some .own) {x : V} (hx : PlV σ H i π x) (hw : ∀ w ∈ ws, w.imm = true) :
    ∃ a u, x = .ref a ∧ H a = some u ∧ Mut (some u) ∧ (∀ v, p.io = some v → ∀ w, σ[0]? = some w → w = some v) ∧
      ∃ (z : Zo) (G : Hp) (A0 B1 : List Addr), z.K = X.K ∧ z.gm = X.mg ∧ a ∉ z.lk ∧ G a = some u ∧ Rp z G (.v (.ref a) d0) A0 ∧ RpS z G front B1 ∧ (A0 ++ B1).Nodup ∧
      ∀ (u' : HO) (d' : D) (back : Stk) (C A0' B1' : List Addr),
        (∀ (G' : Hp), G' a = some u' → (∀ g A, Rp z G g A → a ∉ A → Rp z G' g A) → Rp z G' (.v (.ref a) d') A0' ∧ RpS z G' back B1') → (A0 ++ B1).Perm (C ++ (A0' ++ B1')) → (∀ x w, u' ≠ .frz x w) →
        Gd X p lk L σ (upd H a u') (e.set i (some (setP d π d'))) (back ++ st0) ws := by
  obtain ⟨S, G, A, B, g⟩ := g
  obtain ⟨v, A1, A2, h1, h2, h3, h4⟩ := g.env.split h
  obtain ⟨v0, A0, A1r, k1, k2, k3, k4⟩ := h2.focP hp (topF_ni ho)
  obtain ⟨B1, B2, s1, s2, rfl⟩ := RpS.unappend g.stk
  -- the address
  have hxv : x = v0 := by
    obtain ⟨v', e1, e2⟩ := hx
    rw [h1] at e1; cases e1
    rw [g.hL] at e2
    exact e2.inj (lockAll_vp g.lkd k1)
  subst hxv
  have own : ∃ a u, x = .ref a ∧ G a = some u ∧ Mut (some u) ∧ a ∈ A0 ∧ a ∉ lk := by
    cases k2 with
    | @lst f a xs ds C at0 o r => cases ho; exact ⟨a, _, rfl, at0, trivial, by simp [FlA], o⟩
    | @dk f a xs ds C at0 o n r => cases ho; exact ⟨a, _, rfl, at0, trivial, by simp [FlA], o⟩
    | @dt f a xs ds C at0 o n r => cases ho; exact ⟨a, _, rfl, at0, trivial, by simp [FlA], o⟩
    | @ins f a C' dx c fs es C at0 o q r => cases ho; exact ⟨a, _, rfl, at0, trivial, by simp [FlA], o⟩
    | _ => simp [topF] at ho
  obtain ⟨a, u, rfl, hG, hM, haA, hlk⟩ := own
  -- all the addresses
  have hall : (A ++ (B1 ++ B2)).Perm ((A0 ++ B1) ++ (A1r ++ (A2 ++ B2))) := by
    refine (List.Perm.append_right _ (h3.trans (List.Perm.append_right _ k3))).trans ?_
    exact List.perm_iff_count.mpr fun x => by simp only [List.count_append]; omega
  have hnd := hall.nodup_iff.mp g.nd
  have nd1 := (List.nodup_append.mp hnd).1
  have rest : a ∉ A1r ++ (A2 ++ B2) := fun z => (List.nodup_append.mp hnd).2.2 a (List.mem_append_left _ haA) a z rfl
  have mem : ∀ b ∈ (A0 ++ B1) ++ (A1r ++ (A2 ++ B2)), b ∈ A ++ (B1 ++ B2) := fun b hb => hall.mem_iff.mpr hb
  have haAll : a ∈ A ++ (B1 ++ B2) := mem a (List.mem_append_left _ (List.mem_append_left _ haA))
  have hL : L.lo.lookup a = none := by
    cases q : L.lo.lookup a with
    | none => rfl
    | some od =>
      rcases g.lkz a od q with z | z | z
      · exact absurd z (g.dj a haAll).1
      · exact absurd z (g.dj a haAll).2
      · exact absurd z hlk
  refine ⟨a, u, rfl, by rw [g.hL]; exact lockAll_free g.lkd hL hG, hM, fun v' hv w' hw' => ?_, zo X p S lk, G, A0, B1, rfl, rfl, hlk, hG, k2, s1, nd1, fun u' d' back C A0' B1' mk hC nfz => ?_⟩
  · rw [g.pin v' hv] at hw'; exact (Option.some.inj hw').symm
  -- the new heap
  have neS : ∀ b, S b → b ≠ a := fun b hb z => (g.dj a haAll).1 (z ▸ hb)
  have neR : ∀ b, p.R0 b → b ≠ a := fun b hb z => (g.dj a haAll).2 (z ▸ hb)
  have kh : HLe (zo X p S lk) G (upd G a u') := ⟨fun b w r => rd_upd_mut (fun z => by subst z; have := rd_fun r hG hM; subst this; exact hM) r, fun b w _ hb r => rd_upd_mut (neS b hb) r, fun b w _ hb r => rd_upd_mut (neR b hb) r⟩
  have keep : ∀ (g' : Sg) (A' : List Addr), Rp (zo X p S lk) G g' A' → a ∉ A' → Rp (zo X p S lk) (upd G a u') g' A' := fun g' A' r ha => r.mono (.refl _) kh fun b hb => upd_ne fun z => ha (z ▸ hb)
  obtain ⟨m1, m2⟩ := mk (upd G a u') upd_same keep
  obtain ⟨A1', q1, q2⟩ := k4 (zo X p S lk) (upd G a u') d' A0' (.refl _) kh (fun b hb => upd_ne fun z => rest (List.mem_append_left _ (z ▸ hb))) m1
  have r2 : RpE (zo X p S lk) (upd G a u') σ (e.set i none) A2 := h4.mono (.refl _) kh fun b hb => upd_ne fun z => rest (List.mem_append_right _ (List.mem_append_left _ (z ▸ hb)))
  have hlen : i < e.length := (List.getElem?_eq_some_iff.mp h).1
  obtain ⟨A3, t1, t2⟩ := r2.put (List.getElem?_set_self hlen) q1
  rw [List.set_set] at t1
  have e1 : σ.set i (some v) = σ := by
    apply List.ext_getElem?
    intro j
    by_cases hj : j = i
    · subst hj; rw [List.getElem?_set_self (List.getElem?_eq_some_iff.mp h1).1, h1]
    · rw [List.getElem?_set_ne (Ne.symm hj)]
  rw [e1] at t1
  have s2' : RpS (zo X p S lk) (upd G a u') st0 B2 := s2.mono (.refl _) kh fun b hb => upd_ne fun z => rest (List.mem_append_right _ (List.mem_append_right _ (z ▸ hb)))
  have fin : ((A0' ++ B1') ++ (A1r ++ (A2 ++ B2))).Perm (A3 ++ (B1' ++ B2)) := by
    have p1 : A3.Perm (A0' ++ (A1r ++ A2)) := t2.trans (by rw [← List.append_assoc]; exact List.Perm.append_right _ q2)
    refine List.Perm.symm ((List.Perm.append_right _ p1).trans ?_)
    exact List.perm_iff_count.mpr fun x => by simp only [List.count_append]; omega
  have big : ((A0 ++ B1) ++ (A1r ++ (A2 ++ B2))).Perm (C ++ (A3 ++ (B1' ++ B2))) := by
    refine (List.Perm.append_right _ hC).trans ?_
    rw [List.append_assoc]
    exact List.Perm.append_left _ fin
  have sub : ∀ b ∈ A3 ++ (B1' ++ B2), b ∈ A ++ (B1 ++ B2) := fun b hb => mem b (big.mem_iff.mpr (List.mem_append_right _ hb))
  have kd : ∀ b, (∃ w, G b = some w) → ∃ w, upd G a u' b = some w := fun b ⟨w, q⟩ => by
    by_cases z : b = a
    · subst z; exact ⟨_, upd_same⟩
    · exact ⟨w, by rw [upd_ne z]; exact q⟩
  refine ⟨S, upd G a u', A3, B1' ++ B2, ⟨g.ok, by rw [g.hL, lockAll_upd hL (g.lkd.nohd hG)], ⟨fun b od q => ?_, fun b o q => ?_⟩, g.lkz, fun b hb => kd b (g.lke b hb), t1, m2.append s2', fun w hw' => ?_, ?_, fun b hb => g.dj b (sub b hb), fun b hb => g.ow b (sub b hb), g.s0, fun b hb => ⟨(g.sd b hb).1, kd b (g.sd b hb).2⟩, fun b w q hO => ?_, fun b hb => kd b (g.oo b hb), g.pin, fun b hb x w => ?_⟩⟩
  · obtain ⟨w, hw1, hw2⟩ := g.lkd.lo b od q
    exact ⟨w, by rw [upd_ne (fun z => by subst z; rw [hL] at q; cases q)]; exact hw1, hw2⟩
  · obtain ⟨h1, h2⟩ := g.lkd.hd b o q
    exact ⟨by rw [upd_ne fun z => by subst z; rw [hG] at h1; cases h1]; exact h1, h2⟩
  · have hi := hw w hw'
    have hk := g.wk w hw'
    cases w with
    | p => cases hi
    | v w1 w2 =>
      have r := Rp.ofImm (z' := zo X p S lk) hk rfl rfl hi
      have r' := keep _ _ r.1 (by simp)
      exact (r'.ofImm (z' := zW X.K X.mg (upd G a u')) rfl rfl hi).1
  · exact (List.nodup_append.mp (big.nodup_iff.mp hnd)).2.1
  · have hb : b ≠ a := by
      rintro rfl
      rcases g.ow b haAll with z | z
      · rw [z] at q; cases q
      · exact hO z
    rw [upd_ne hb]; exact g.fr b w q hO
  · by_cases z : b = a
    · subst z; rw [upd_same]; exact fun z => nfz x w (Option.some.inj z)
    · rw [upd_ne z]; exact g.nf b hb x w
end
end DG

set_option Elab.async false
set_option linter.all false
set_option maxHeartbeats 4000000
/-! DGf: what a piece of the little Python does to the slots (M), and the readings made of it (tV, tW, tT). -/
namespace DG
open PySem PySem.Spec PyProof.Rows L2
set_option autoImplicit false
inductive Res (α : Type) where
  | ok (a : α) (e : Env)
  | exc (c : Str) (fs : List (Str × D)) (e : Env)
  | bad
abbrev M (α : Type) := Env → Res α
def Res.run {α : Type} (r : Res α) (ok : α → Env → Prop) (ex : Str → List (Str × D) → Env → Prop) : Prop := match r with
  | .ok a e => ok a e
  | .exc c fs e => ex c fs e
  | .bad => False
def M.ret {α : Type} (a : α) : M α := fun e => .ok a e
def M.bad {α : Type} : M α := fun _ => .bad
def M.bind {α β : Type} (f : M α) (g : α → M β) : M β := fun e => match f e with
  | .ok a e' => g a e'
  | .exc c fs e' => .exc c fs e'
  | .bad => .bad
def M.opt {α : Type} : Option α → M α
  | some a => .ret a
  | none => .bad
abbrev WX := Value → Option Addr → L2.St → Hp → Prop
/-- an exception of the class called c, with the fields fs -/
def ExG (X : Kx) (p : Par) (lk : List Addr) (L : Lk) (σ : L2.St) (H : Hp) (e : Env) (st : Stk) (c : Str) (fs : List (Str × D)) (cls : Value) (d : Option Addr) : Prop :=
  X.mg c = some cls ∧ ((fs = [] ∧ Gd X p lk L σ H e st []) ∨
    ∃ dd fv, d = some dd ∧ H dd = some (.xd fv) ∧ fv.map (·.1) = fs.map (·.1) ∧ Gd X p lk L σ H e ((fv.map (·.2)).zip (fs.map (·.2)) ++ st) [])
section
variable (X : Kx) (p : Par) (W : WX)
def XW (lk : List Addr) (L : Lk) (σ : L2.St) (st : Stk) : Str → List (Str × D) → Env → Prop := fun c fs e' => ∀ cls d H', ExG X p lk L σ H' e' st c fs cls d → W cls d σ H'
def tR {α : Type} (f : M α) (σ : L2.St) (H : Hp) (post : List Addr → Lk → Env → Stk → List Wk → α → Prop) : Prop :=
  ∃ lk L e st ws, Gd X p lk L σ H e st ws ∧ (f e).run (fun a e' => post lk L e' st ws a) (XW X p W lk L σ st)
def tV (f : M D) : TE := fun σ H Q => tR X p W f σ H fun lk L e st ws d => ∀ v H', Gd X p lk L σ H' e ((v, d) :: st) ws → Q v H'
def tW (f : M D) : TE := fun σ H Q => tR X p W f σ H fun lk L e st ws d => ∀ v H', Gd X p lk L σ H' e st (.v v d :: ws) → Q v H'
def tT (f : M Bool) : TT := fun σ H Q => tR X p W f σ H fun lk L e st ws b => ∀ H', Gd X p lk L σ H' e st ws → Q b H'
/-- arguments: strong, in front of the pending ones -/
def tAV (f : M (List D)) : TA := fun σ H Q => tR X p W f σ H fun lk L e st ws ds => ∀ vs H', vs.length = ds.length → Gd X p lk L σ H' e (vs.zip ds ++ st) ws → Q vs H'
def tAW (f : M (List D)) : TA := fun σ H Q => tR X p W f σ H fun lk L e st ws ds => ∀ vs H', vs.length = ds.length → Gd X p lk L σ H' e st ((vs.zip ds).map (fun q => .v q.1 q.2) ++ ws) → Q vs H'
end
section
variable {X : Cx} {p : Par} {W : WX}
theorem PEmono {e : Expr} {t t' : TE} (h : PE X e t) (k : ∀ σ H Q, t' σ H Q → t σ H Q) : PE X e t' := ⟨fun pins s σ H Q I q => h.run pins s σ H Q I (k σ H Q q)⟩
theorem PTmono {e : Expr} {t t' : TT} (h : PT X e t) (k : ∀ σ H Q, t' σ H Q → t σ H Q) : PT X e t' := ⟨fun pins s σ H Q I q => h.run pins s σ H Q I (k σ H Q q)⟩
theorem PAmono {es : List Expr} {t t' : TA} (h : PA X es t) (k : ∀ σ H Q, t' σ H Q → t σ H Q) : PA X es t' := ⟨fun pos pins s σ H Q I q => h.run pos pins s σ H Q I (k σ H Q q)⟩
/-- one after the other -/
theorem tR_bind {α β : Type} {f : M α} {g : α → M β} {σ : L2.St} {H : Hp} {post : List Addr → Lk → Env → Stk → List Wk → β → Prop} (h : tR X p W (f.bind g) σ H post) :
    tR X p W f σ H fun lk L e st ws a => (g a e).run (fun b e' => post lk L e' st ws b) (XW X p W lk L σ st) := by
  obtain ⟨lk, L, e, st, ws, gd, h⟩ := h
  refine ⟨lk, L, e, st, ws, gd, ?_⟩
  unfold M.bind at h
  cases hf : f e with
  | ok a e' => rw [hf] at h; exact h
  | exc c fs e' => rw [hf] at h; exact h
  | bad => rw [hf] at h; exact h
theorem tR_mono {α : Type} {f : M α} {σ : L2.St} {H : Hp} {post post' : List Addr → Lk → Env → Stk → List Wk → α → Prop} (h : tR X p W f σ H post) (k : ∀ lk L e st ws a, post lk L e st ws a → post' lk L e st ws a) : tR X p W f σ H post' := by
  obtain ⟨lk, L, e, st, ws, gd, h⟩ := h
  refine ⟨lk, L, e, st, ws, gd, ?_⟩
  cases hf : f e with
  | ok a e' => rw [hf] at h; exact k _ _ _ _ _ _ h
  | exc c fs e' => rw [hf] at h; exact h
  | bad => rw [hf] at h; exact h
/-- .. ended by a wanted value -/
theorem tR_opt {α β : Type} {f : M α} {g : α → Option β} {σ : L2.St} {H : Hp} {post : List Addr → Lk → Env → Stk → List Wk → β → Prop} (h : tR X p W (f.bind fun a => .opt (g a)) σ H post) :
    tR X p W f σ H fun lk L e st ws a => ∃ b, g a = some b ∧ post lk L e st ws b := by
  refine tR_mono (tR_bind h) fun lk L e st ws a q => ?_
  cases hg : g a with
  | none => rw [hg] at q; exact False.elim q
  | some b => rw [hg] at q; exact ⟨b, rfl, q⟩
/-- a value as it is to be read in the heap that runs -/
def Wr (X : Kx) (H : Hp) (v : V) (d : D) : Prop := Rp (zW X.K X.mg H) H (.v v d) []
theorem Gd.wr {lk : List Addr} {L : Lk} {σ : L2.St} {H : Hp} {e : Env} {st : Stk} {ws : List Wk} {v : V} {d : D} (g : Gd X p lk L σ H e st ws) (h : .v v d ∈ ws) : Wr X H v d := by
  obtain ⟨S, G, A, B, g⟩ := g
  have r : Rp (zW X.K X.mg G) G (.v v d) [] := g.wk _ h
  rw [g.hL]
  exact r.wmono rfl fun _ _ => lockAll_rd g.lkd
theorem Gd.pl {lk : List Addr} {L : Lk} {σ : L2.St} {H : Hp} {e : Env} {st : Stk} {ws : List Wk} {i : Nat} {π : Pth} {x : V} (g : Gd X p lk L σ H e st ws) (h : .p i π x ∈ ws) : PlV σ H i π x := by
  obtain ⟨S, G, A, B, g⟩ := g
  have r : i < p.nl ∧ PlV σ G i π x := g.wk _ h
  rw [g.hL]
  exact r.2.mono fun _ _ => lockAll_rd g.lkd
/-! ### from strong to weak, and back -/
theorem pe_weak {e : Expr} {f : M D} (h : PE X e (tV X p W f)) : PE X e (tW X p W (f.bind fun d => .ret (lend d))) :=
  PEmono h fun σ H Q q => tR_mono (tR_bind q) fun lk L e st ws d q v H' g => q v H' g.weaken
def immM (d : D) : M D := if imm d then .ret d else .bad
theorem pe_strong {e : Expr} {f : M D} (h : PE X e (tW X p W f)) : PE X e (tV X p W (f.bind immM)) :=
  PEmono h fun σ H Q q => tR_mono (tR_bind q) fun lk L e st ws d q v H' g => by
    unfold immM at q
    cases hi : imm d with
    | false => rw [hi] at q; exact False.elim q
    | true => rw [hi] at q; exact q v H' (g.strong hi)
/-! ### names and constants -/
def slotM (i : Nat) : M D := fun e => match e[i]? with
  | some (some d) => .ok (lend d) e
  | _ => .bad
theorem pe_slotW {i : Nat} {x : Str} {pos : Pos} (hN : X.N[i]? = some x) (hv : Vis X.env.scope x) (hd : (x == ("__debug__" : Str)) = false) (hcd : (x == ("__classdict__" : Str)) = false) : PE X (.Name x pos) (tW X p W (slotM i)) :=
  PEmono (pe_var hN hv hd hcd) fun σ H Q ⟨lk, L, e, st, ws, g, q⟩ => by
    unfold slotM at q
    cases he : e[i]? with
    | none => rw [he] at q; exact False.elim q
    | some o =>
      cases o with
      | none => rw [he] at q; exact False.elim q
      | some d =>
        rw [he] at q
        obtain ⟨v, h1, h2⟩ := g.slotW he
        exact ⟨v, h1, q v H h2⟩
def slotS (io : Bool) (i : Nat) : M D := fun e => match e[i]? with
  | some (some d) => if allF noLk d then .ok (share io d) (e.set i (some (share io d))) else .bad
  | _ => .bad
theorem pe_slotS {i : Nat} {io : Bool} {x : Str} {pos : Pos} (hio : io = false → p.O = []) (hN : X.N[i]? = some x) (hv : Vis X.env.scope x) (hd : (x == ("__debug__" : Str)) = false) (hcd : (x == ("__classdict__" : Str)) = false) : PE X (.Name x pos) (tV X p W (slotS io i)) :=
  PEmono (pe_var hN hv hd hcd) fun σ H Q ⟨lk, L, e, st, ws, g, q⟩ => by
    unfold slotS at q
    cases he : e[i]? with
    | none => rw [he] at q; exact False.elim q
    | some o =>
      cases o with
      | none => rw [he] at q; exact False.elim q
      | some d =>
        rw [he] at q
        dsimp only at q
        cases hl : allF noLk d with
        | false => rw [hl] at q; exact False.elim q
        | true =>
          rw [hl] at q
          obtain ⟨v, h1, h2⟩ := g.slotS he hl hio
          exact ⟨v, h1, q v H h2⟩
def slotMv (i : Nat) : M D := fun e => match e[i]? with
  | some (some d) => .ok d (e.set i none)
  | _ => .bad
theorem pe_slotMv {i : Nat} {x : Str} {pos : Pos} (hN : X.N[i]? = some x) (hv : Vis X.env.scope x) (hd : (x == ("__debug__" : Str)) = false) (hcd : (x == ("__classdict__" : Str)) = false) : PE X (.Name x pos) (tV X p W (slotMv i)) :=
  PEmono (pe_var hN hv hd hcd) fun σ H Q ⟨lk, L, e, st, ws, g, q⟩ => by
    unfold slotMv at q
    cases he : e[i]? with
    | none => rw [he] at q; exact False.elim q
    | some o =>
      cases o with
      | none => rw [he] at q; exact False.elim q
      | some d =>
        rw [he] at q
        obtain ⟨v, h1, h2⟩ := g.slotM he
        exact ⟨v, h1, q v H h2⟩
/-- scalars -/
def vOf : D → Option V
  | .non => some .non | .bl b => some (.bl b) | .int i => some (.int i) | .str x => some (.str x) | .ty n => some (.ty n)
  | _ => none
theorem vOf_rp {d : D} {v : V} (h : vOf d = some v) (z : Zo) (G : Hp) : Rp z G (.v v d) [] := by
  cases d <;> simp only [vOf, Option.some.injEq, reduceCtorEq] at h
  · subst h; exact .non
  · subst h; exact .bl _
  · subst h; exact .int _
  · subst h; exact .str _
  · subst h; exact .ty _
theorem vOf_imm {d : D} {v : V} (h : vOf d = some v) : imm d = true := by
  cases d <;> simp only [vOf, reduceCtorEq] at h <;> rfl
theorem pe_cst {e : Expr} {v : V} {d : D} (h : PE X e (tC v)) (hv : vOf d = some v) : PE X e (tW X p W (.ret d)) :=
  PEmono h fun σ H Q ⟨lk, L, e, st, ws, g, q⟩ => q v H (g.pushW fun z G _ _ => vOf_rp hv z G)
/-! ### tests -/
/-- a value that is a bool, as a test -/
def blM (d : D) : M Bool := match d with
  | .bl b => .ret b
  | _ => .bad
theorem Wr_bl {H : Hp} {v : V} {b : Bool} (h : Wr X H v (.bl b)) : v = .bl b := by cases h; rfl
theorem Wr_int {H : Hp} {v : V} {b : Int} (h : Wr X H v (.int b)) : v = .int b := by cases h; rfl
theorem Wr_str {H : Hp} {v : V} {b : Str} (h : Wr X H v (.str b)) : v = .str b := by cases h; rfl
theorem Wr_non {H : Hp} {v : V} (h : Wr X H v .non) : v = .non := by cases h; rfl
end
end DG

set_option Elab.async false
set_option linter.all false
set_option maxHeartbeats 4000000
/-! DGg: operations that give a scalar, a new list or a new tuple. -/
namespace DG
open PySem PySem.Spec PyProof.Rows L2
set_option autoImplicit false
inductive Nw where
  | sc (d : D) | nl (ds : List D) | nt (ds : List D)
def Nw.d : Nw → D
  | .sc d => d
  | .nl ds => .lst .own ds
  | .nt ds => .tup ds
abbrev immL (ds : List D) : Bool := allFL (fun _ => false) ds
/-- a new thing is handed on -/
def NewR (X : Kx) (H : Hp) (r : Nw) (Q : VK) : Prop := match r with
  | .sc d => ∃ v, vOf d = some v ∧ Q v H
  | .nl ds => immL ds = true ∧ ∀ p xs, H p = none → Rp (zW X.K X.mg H) H (.l xs ds) [] → Q (.ref p) (upd H p (.lst xs))
  | .nt ds => immL ds = true ∧ ∀ p xs, H p = none → Rp (zW X.K X.mg H) H (.l xs ds) [] → Q (.ref p) (upd H p (.tup xs))
/-- what owns nothing leans on tuples alone -/
theorem Rp.immH {z z' : Zo} {H H' : Hp} {g : Sg} {A : List Addr} (h : Rp z H g A) (kK : z'.K = z.K) (kg : z'.gm = z.gm) (hi : allS (fun _ => false) g = true) (k : ∀ a u, Rd H a (.tup u) → Rd H' a (.tup u)) : Rp z' H' g [] := by
  induction h with
  | non => exact .non
  | bl b => exact .bl b
  | int i => exact .int i
  | str x => exact .str x
  | ty n => exact .ty n
  | fn e => exact .fn (by rw [kg]; exact e)
  | tup t _ ih => exact .tup (by rw [kK]; exact t.mono (k _)) (ih hi)
  | lst => simp [allS, allF] at hi
  | dk => simp [allS, allF] at hi
  | dt => simp [allS, allF] at hi
  | ins => simp [allS, allF] at hi
  | nil => exact .nil
  | cons _ _ i1 i2 =>
    simp only [allS, allFL, Bool.and_eq_true] at hi
    exact .cons (A := []) (B := []) (i1 hi.1) (i2 hi.2)
  | knil => exact .knil
  | kcons _ _ i1 i2 =>
    simp only [allS, allFK, Bool.and_eq_true] at hi
    exact .kcons (A := []) (B := []) (i1 hi.1) (i2 hi.2)
  | tnil => exact .tnil
  | tcons _ _ i1 i2 =>
    simp only [allS, allFT, Bool.and_eq_true] at hi
    exact .tcons (A := []) (B := []) (i1 hi.1) (i2 hi.2)
  | snil => exact .snil
  | scons _ _ i1 i2 =>
    simp only [allS, allFS, Bool.and_eq_true] at hi
    exact .scons (A := []) (B := []) (i1 hi.1) (i2 hi.2)
section
variable {X : Cx} {p : Par} {W : WX} {lk : List Addr} {L : Lk} {σ : L2.St} {H : Hp} {e : Env} {st : Stk} {ws : List Wk}
theorem zip_fst : ∀ {xs : List V} {ds : List D}, xs.length = ds.length → (xs.zip ds).map (·.1) = xs
  | [], [], _ => rfl
  | _ :: xs, _ :: ds, h => by rw [List.zip_cons_cons, List.map_cons, zip_fst (by simpa using h)]
  | [], _ :: _, h => by simp at h
  | _ :: _, [], h => by simp at h
theorem zip_snd : ∀ {xs : List V} {ds : List D}, xs.length = ds.length → (xs.zip ds).map (·.2) = ds
  | [], [], _ => rfl
  | _ :: xs, _ :: ds, h => by rw [List.zip_cons_cons, List.map_cons, zip_snd (by simpa using h)]
  | [], _ :: _, h => by simp at h
  | _ :: _, [], h => by simp at h
/-- the new thing is a pending value -/
theorem Gd.new (g : Gd X p lk L σ H e st ws) {r : Nw} {Q : VK} (hi : match r with | .sc d => (vOf d).isSome = true | .nl ds => immL ds = true | .nt ds => immL ds = true)
    (q : ∀ v H', Gd X p lk L σ H' e ((v, r.d) :: st) ws → Q v H') : NewR X H r Q := by
  cases r with
  | sc d =>
    have hi : (vOf d).isSome = true := hi
    cases hv : vOf d with
    | none => rw [hv] at hi; cases hi
    | some v => exact ⟨v, hv, q v H (g.push fun z G _ _ => vOf_rp hv z G)⟩
  | nl ds =>
    refine ⟨hi, fun a xs ha r => q _ _ ?_⟩
    refine Gd.alloc (front := []) g ha (.lst xs) (.lst .own ds) true fun z G' B kK kg hz hG k rS => ?_
    cases rS
    exact .lst (f := .own) hG hz (r.immH kK kg hi k)
  | nt ds =>
    refine ⟨hi, fun a xs ha r => q _ _ ?_⟩
    refine Gd.alloc (front := []) g ha (.tup xs) (.tup ds) false fun z G' B kK kg hz hG k rS => ?_
    cases rS
    exact .tup (.inl hG) (r.immH kK kg hi k)
def Nw.ok : Nw → Bool
  | .sc d => (vOf d).isSome
  | .nl ds => immL ds
  | .nt ds => immL ds
/-- operations by what they give -/
def OpN (X : Cx) (F : Value → Value → Sem Value) (op : D → D → Option Nw) : Prop :=
  OpR X F fun x y H Q => (∀ a o xs, H a ≠ some (.frz o (.tup xs))) ∧ ∃ dx dy r, Wr X H x dx ∧ Wr X H y dy ∧ op dx dy = some r ∧ NewR X H r Q
def CallN (X : Cx) (f : Value) (op : List D → Option Nw) : Prop :=
  CallR X f fun xs H Q => (∀ a o xs, H a ≠ some (.frz o (.tup xs))) ∧ ∃ ds r, xs.length = ds.length ∧ (∀ w ∈ xs.zip ds, Wr X H w.1 w.2) ∧ op ds = some r ∧ NewR X H r Q
def newM : Option Nw → M D
  | some r => if r.ok then .ret r.d else .bad
  | none => .bad
theorem newM_run {op : Option Nw} {Q : VK} (q : (newM op e).run (fun d e' => ∀ v H', Gd X p lk L σ H' e' ((v, d) :: st) ws → Q v H') (XW X p W lk L σ st))
    (g : Gd X p lk L σ H e st ws) : ∃ r, op = some r ∧ NewR X H r Q := by
  unfold newM at q
  cases hop : op with
  | none => rw [hop] at q; exact False.elim q
  | some r =>
    rw [hop] at q
    dsimp only at q
    by_cases hok : r.ok = true
    · rw [if_pos hok] at q
      exact ⟨r, rfl, Gd.new g (by cases r <;> exact hok) q⟩
    · rw [if_neg hok] at q; exact False.elim q
def binN (op : D → D → Option Nw) (f g : M D) : M D := f.bind fun a => g.bind fun b => newM (op a b)
/-- two weak values, then what is made of them -/
theorem two_of {α : Type} {a b : TE} {f g : M D} {k : D → D → M α} {R : V → V → Hp → Prop} {σ : L2.St} {post : List Addr → Lk → Env → Stk → List Wk → α → Prop} (h : tR X p W (f.bind fun x => g.bind fun y => k x y) σ H post)
    (ha : ∀ Q, tW X p W f σ H Q → a σ H Q) (hb : ∀ H Q, tW X p W g σ H Q → b σ H Q)
    (hr : ∀ (lk : List Addr) (L : Lk) (e : Env) (st : Stk) (ws : List Wk) (x y : V) (dx dy : D) (H : Hp), Gd X p lk L σ H e st (.v y dy :: .v x dx :: ws) →
      (k dx dy e).run (fun r e' => post lk L e' st ws r) (XW X p W lk L σ st) → R x y H) :
    a σ H fun x H1 => b σ H1 fun y H2 => R x y H2 := by
  refine ha _ (tR_mono (tR_bind h) fun lk L e st ws d q v H1 g1 => hb _ _ ?_)
  refine ⟨lk, L, e, st, .v v d :: ws, g1, ?_⟩
  unfold M.bind at q
  cases hg : g e with
  | ok b e' =>
    rw [hg] at q
    exact fun v' H2 g2 => hr lk L e' st ws v v' d b H2 g2 q
  | exc => rw [hg] at q; exact q
  | bad => rw [hg] at q; exact q
/-- .. in a rule for an operator -/
theorem pe_binN {a b : Expr} {op : Operator} {pos : Pos} {opD : D → D → Option Nw} {f g : M D} (ho : OpN X (binaryOp op) opD) (ha : PE X a (tW X p W f)) (hb : PE X b (tW X p W g)) : PE X (.BinOp a op b pos) (tV X p W (binN opD f g)) :=
  PEmono (pe_op ho ha hb) fun σ H Q h => two_of (k := fun x y => newM (opD x y)) h (fun _ q => q) (fun _ _ q => q) fun lk L e st ws x y dx dy H g q => by
    obtain ⟨r, hop, hn⟩ := newM_run q (g.subW fun w hw => List.mem_cons_of_mem _ (List.mem_cons_of_mem _ hw))
    exact ⟨g.nft, dx, dy, r, g.wr (List.mem_cons_of_mem _ List.mem_cons_self), g.wr List.mem_cons_self, hop, hn⟩
theorem pe_cmpN {a b : Expr} {op : CmpOp} {pos : Pos} {opD : D → D → Option Nw} {f g : M D} (ho : OpN X (compareOp op) opD) (ha : PE X a (tW X p W f)) (hb : PE X b (tW X p W g)) (hm : behindInMarks op b = false) : PE X (.Compare a [op] [b] pos) (tV X p W (binN opD f g)) :=
  PEmono (pe_cmpR ho ha hb hm) fun σ H Q h => two_of (k := fun x y => newM (opD x y)) h (fun _ q => q) (fun _ _ q => q) fun lk L e st ws x y dx dy H g q => by
    obtain ⟨r, hop, hn⟩ := newM_run q (g.subW fun w hw => List.mem_cons_of_mem _ (List.mem_cons_of_mem _ hw))
    exact ⟨g.nft, dx, dy, r, g.wr (List.mem_cons_of_mem _ List.mem_cons_self), g.wr List.mem_cons_self, hop, hn⟩
end
/-! ### ints, texts, lists -/
section
variable {X : Cx}
theorem Rp.lst_inv {z : Zo} {H : Hp} {v : V} {f : Fl} {ds : List D} {A : List Addr} (h : Rp z H (.v v (.lst f ds)) A) : ∃ a xs B, v = .ref a ∧ At H f a (.lst xs) ∧ FlOk z a f ∧ Rp z H (.l xs ds) B ∧ A = FlA f a ++ B := by
  cases h with
  | lst a o r => exact ⟨_, _, _, rfl, a, o, r, rfl⟩
theorem Rp.tup_inv {z : Zo} {H : Hp} {v : V} {ds : List D} {A : List Addr} (h : Rp z H (.v v (.tup ds)) A) : ∃ a xs, v = .ref a ∧ TupAt z.K H a xs ds ∧ Rp z H (.l xs ds) A := by
  cases h with
  | tup t r => exact ⟨_, _, rfl, t, r⟩
theorem Rp.dk_inv {z : Zo} {H : Hp} {v : V} {f : Fl} {ds : List (Key × D)} {A : List Addr} (h : Rp z H (.v v (.dk f ds)) A) : ∃ a xs B, v = .ref a ∧ At H f a (.dK xs) ∧ FlOk z a f ∧ (ds.map (·.1)).Nodup ∧ Rp z H (.k xs ds) B ∧ A = FlA f a ++ B := by
  cases h with
  | dk a o n r => exact ⟨_, _, _, rfl, a, o, n, r, rfl⟩
theorem Rp.dt_inv {z : Zo} {H : Hp} {v : V} {f : Fl} {ds : List (List Key × D)} {A : List Addr} (h : Rp z H (.v v (.dt f ds)) A) : ∃ a xs B, v = .ref a ∧ At H f a (.dT xs) ∧ FlOk z a f ∧ (ds.map (·.1)).Nodup ∧ Rp z H (.t xs ds) B ∧ A = FlA f a ++ B := by
  cases h with
  | dt a o n r => exact ⟨_, _, _, rfl, a, o, n, r, rfl⟩
theorem Rp.ins_inv {z : Zo} {H : Hp} {v : V} {f : Fl} {c : Str} {fs : List (Str × D)} {A : List Addr} (h : Rp z H (.v v (.ins f c fs)) A) : ∃ a C dx xs B, v = .ref a ∧ At H f a (.ins C dx xs) ∧ FlOk z a f ∧ z.gm c = some (.ref C) ∧ Rp z H (.s xs fs) B ∧ A = FlA f a ++ B := by
  cases h with
  | ins a o e r => exact ⟨_, _, _, _, _, rfl, a, o, e, r, rfl⟩
theorem Wr_lst {H : Hp} {v : V} {f : Fl} {ds : List D} (h : Wr X H v (.lst f ds)) : ∃ a xs, v = .ref a ∧ Rd H a (.lst xs) ∧ Rp (zW X.K X.mg H) H (.l xs ds) [] := by
  obtain ⟨a, xs, B, e, at0, o, r, q⟩ := h.lst_inv
  have e2 : B = [] := (List.append_eq_nil_iff.mp q.symm).2
  subst e2
  exact ⟨a, xs, e, at0.rd, r⟩
theorem Wr_tup {H : Hp} {v : V} {ds : List D} (h : Wr X H v (.tup ds)) : ∃ a xs, v = .ref a ∧ SqT X.K H a xs ∧ Rp (zW X.K X.mg H) H (.l xs ds) [] := by
  obtain ⟨a, xs, e, t, r⟩ := h.tup_inv
  exact ⟨a, xs, e, t.seq, r⟩
theorem Rp.appNil {z : Zo} {H : Hp} {xs ys : List V} {ds es : List D} (h : Rp z H (.l xs ds) []) (h' : Rp z H (.l ys es) []) : Rp z H (.l (xs ++ ys) (ds ++ es)) [] := h.appL h'
theorem op_catR : OpR X (binaryOp .Add) (fun x y H Q => ∃ l b xs zs, x = .ref l ∧ y = .ref b ∧ Rd H l (.lst xs) ∧ Rd H b (.lst zs) ∧ xs.length + zs.length ≤ sizeLine ∧ ∀ p, H p = none → Q (.ref p) (upd H p (.lst (xs ++ zs)))) := by
  intro pins s σ H x y v u Q I rx ry h
  obtain ⟨l, b, xs, zs, rfl, rfl, hH, hB, hz, q⟩ := h
  cases rx
  cases ry
  obtain ⟨z, its, n, r, e⟩ := hH.ok I.hok
  obtain ⟨z2, its2, n2, r2, e2⟩ := hB.ok I.hok
  have hl := r.length
  have hl2 := r2.length
  refine PySem.P.add_list e e2 ?_ (by rw [List.size_toArray, List.size_toArray]; omega)
  have ea : its.toArray ++ its2.toArray = (its ++ its2).toArray := by simp
  rw [ea]
  exact ⟨.ref _, _, I.lnew (t' := s.toks) (r.append r2) (by rw [List.length_append]; omega), rfl, q _ I.fresh⟩
def addD : D → D → Option Nw
  | .int i, .int j => some (.sc (.int (i + j)))
  | .str x, .str y => if x.length + y.length ≤ sizeLine then some (.sc (.str (x ++ y))) else none
  | .lst _ as, .lst _ bs => if as.length + bs.length ≤ sizeLine ∧ immL (as ++ bs) = true then some (.nl (as ++ bs)) else none
  | _, _ => none
theorem OpN.of {F : Value → Value → Sem Value} {op : D → D → Option Nw} {r : R2} (h : OpR X F r) (k : ∀ x y H Q dx dy n, Wr X H x dx → Wr X H y dy → op dx dy = some n → NewR X H n Q → r x y H Q) : OpN X F op := by
  intro pins s σ H x y v u Q I rx ry ⟨_, dx, dy, n, w1, w2, ho, q⟩
  exact h pins s σ H x y v u Q I rx ry (k x y H Q dx dy n w1 w2 ho q)
theorem OpN.of' {F : Value → Value → Sem Value} {op : D → D → Option Nw} {r : R2} (h : OpR X F r) (k : ∀ x y H Q dx dy n, (∀ a o xs, H a ≠ some (.frz o (.tup xs))) → Wr X H x dx → Wr X H y dy → op dx dy = some n → NewR X H n Q → r x y H Q) : OpN X F op := by
  intro pins s σ H x y v u Q I rx ry ⟨nf, dx, dy, n, w1, w2, ho, q⟩
  exact h pins s σ H x y v u Q I rx ry (k x y H Q dx dy n nf w1 w2 ho q)
theorem on_add : OpN X (binaryOp .Add) addD := by
  refine .of ((op_add.or op_add_str).or op_catR) fun x y H Q dx dy n w1 w2 ho q => ?_
  cases dx <;> cases dy <;> simp only [addD, Option.some.injEq, reduceCtorEq] at ho
  · subst ho
    cases Wr_int w1
    cases Wr_int w2
    obtain ⟨v, hv, q⟩ := q
    cases hv
    exact .inl (.inl ⟨_, _, rfl, rfl, q⟩)
  · split at ho
    · rename_i hz
      cases ho
      cases Wr_str w1
      cases Wr_str w2
      obtain ⟨v, hv, q⟩ := q
      cases hv
      exact .inl (.inr ⟨_, _, rfl, rfl, hz, q⟩)
    · cases ho
  · split at ho
    · rename_i hz
      cases ho
      obtain ⟨a, xs, rfl, r1, p1⟩ := Wr_lst w1
      obtain ⟨b, ys, rfl, r2, p2⟩ := Wr_lst w2
      refine .inr ⟨a, b, xs, ys, rfl, rfl, r1, r2, by rw [p1.lenL, p2.lenL]; exact hz.1, fun p hp => q.2 p _ hp (p1.appNil p2)⟩
    · cases ho
def subD : D → D → Option Nw
  | .int i, .int j => some (.sc (.int (i - j)))
  | _, _ => none
def mulD : D → D → Option Nw
  | .int i, .int j => if (-(2 ^ 64) < i ∧ i < 2 ^ 64) ∨ (-(2 ^ 64) < j ∧ j < 2 ^ 64) then some (.sc (.int (i * j))) else none
  | _, _ => none
def fdivD : D → D → Option Nw
  | .int i, .int j => if 0 < j ∧ j < 1073741824 then some (.sc (.int (i / j))) else none
  | _, _ => none
def modD : D → D → Option Nw
  | .int i, .int j => if 0 < j then some (.sc (.int (i % j))) else none
  | _, _ => none
theorem on_int {F : Value → Value → Sem Value} {op : D → D → Option Nw} {C : Int → Int → Prop} {f : Int → Int → D} {gv : Int → Int → V} (h : OpR X F (rI C gv)) (hv : ∀ i j, vOf (f i j) = some (gv i j))
    (ho : ∀ dx dy n, op dx dy = some n → ∃ i j, dx = .int i ∧ dy = .int j ∧ C i j ∧ n = .sc (f i j)) : OpN X F op := by
  refine .of h fun x y H Q dx dy n w1 w2 hop q => ?_
  obtain ⟨i, j, rfl, rfl, hc, rfl⟩ := ho dx dy n hop
  cases Wr_int w1
  cases Wr_int w2
  obtain ⟨v, e, q⟩ := q
  rw [hv] at e
  cases e
  exact ⟨i, j, rfl, rfl, hc, q⟩
theorem on_int0 {F : Value → Value → Sem Value} {op : D → D → Option Nw} {f : Int → Int → D} {gv : Int → Int → V} (h : OpR X F (rI0 gv)) (hv : ∀ i j, vOf (f i j) = some (gv i j))
    (ho : ∀ dx dy n, op dx dy = some n → ∃ i j, dx = .int i ∧ dy = .int j ∧ n = .sc (f i j)) : OpN X F op := by
  refine .of h fun x y H Q dx dy n w1 w2 hop q => ?_
  obtain ⟨i, j, rfl, rfl, rfl⟩ := ho dx dy n hop
  cases Wr_int w1
  cases Wr_int w2
  obtain ⟨v, e, q⟩ := q
  rw [hv] at e
  cases e
  exact ⟨i, j, rfl, rfl, q⟩
theorem on_sub : OpN X (binaryOp .Sub) subD := on_int0 (f := fun i j => .int (i - j)) op_sub (fun _ _ => rfl) fun dx dy n h => by
  cases dx <;> cases dy <;> simp only [subD, Option.some.injEq, reduceCtorEq] at h
  exact ⟨_, _, rfl, rfl, h.symm⟩
theorem on_mul : OpN X (binaryOp .Mult) mulD := on_int (f := fun i j => .int (i * j)) op_mul (fun _ _ => rfl) fun dx dy n h => by
  cases dx <;> cases dy <;> simp only [mulD, Option.some.injEq, reduceCtorEq, Option.ite_none_right_eq_some] at h
  exact ⟨_, _, rfl, rfl, h.1, h.2.symm⟩
theorem on_fdiv : OpN X (binaryOp .FloorDiv) fdivD := on_int (f := fun i j => .int (i / j)) op_fdiv (fun _ _ => rfl) fun dx dy n h => by
  cases dx <;> cases dy <;> simp only [fdivD, Option.some.injEq, reduceCtorEq, Option.ite_none_right_eq_some] at h
  exact ⟨_, _, rfl, rfl, h.1, h.2.symm⟩
theorem on_mod : OpN X (binaryOp .Mod) modD := on_int (f := fun i j => .int (i % j)) op_mod (fun _ _ => rfl) fun dx dy n h => by
  cases dx <;> cases dy <;> simp only [modD, Option.some.injEq, reduceCtorEq, Option.ite_none_right_eq_some] at h
  exact ⟨_, _, rfl, rfl, h.1, h.2.symm⟩
end
end DG

set_option Elab.async false
set_option linter.all false
set_option maxHeartbeats 4000000
/-! DGh: tests, and, or, not, displays, arguments. -/
namespace DG
open PySem PySem.Spec PyProof.Rows L2
set_option autoImplicit false
section
variable {X : Cx} {p : Par} {W : WX} {lk : List Addr} {L : Lk} {σ : L2.St} {H : Hp} {e : Env} {st : Stk} {ws : List Wk} {a b c : Expr} {pos : Pos} {f g h : M D}
/-! ### tests -/
def truD : D → Option Bool
  | .non => some false
  | .bl b => some b
  | .int i => some (i != 0)
  | .str x => if x.length ≤ sizeLine then some ((x.length : Int) != 0) else none
  | .lst _ ds => some (!ds.isEmpty)
  | .tup ds => some (!ds.isEmpty)
  | _ => none
theorem Rp.emptyL {z : Zo} {H : Hp} {xs : List V} {ds : List D} {A : List Addr} (h : Rp z H (.l xs ds) A) : xs.isEmpty = ds.isEmpty := by
  have := h.lenL
  cases xs <;> cases ds <;> simp_all
theorem truV_of {H : Hp} {v : V} {d : D} {b : Bool} (w : Wr X H v d) (h : truD d = some b) : TruV X.K v H b := by
  cases d <;> simp only [truD, Option.some.injEq, reduceCtorEq, Option.ite_none_right_eq_some] at h
  · cases Wr_non w; exact h.symm
  · cases Wr_bl w; exact h.symm
  · cases Wr_int w; exact h.symm
  · cases Wr_str w; exact ⟨h.1, h.2.symm⟩
  · obtain ⟨a, xs, rfl, t, r⟩ := Wr_tup w
    exact .inr (.inl ⟨xs, t, by rw [r.emptyL]; exact h.symm⟩)
  · obtain ⟨a, xs, rfl, t, r⟩ := Wr_lst w
    exact .inl ⟨xs, .inl t, by rw [r.emptyL]; exact h.symm⟩
def truM (d : D) : M Bool := .opt (truD d)
theorem tR_optK {α β : Type} {f : M α} {g : α → Option β} {post : List Addr → Lk → Env → Stk → List Wk → β → Prop} (h : tR X p W (f.bind fun a => .opt (g a)) σ H post) :
    tR X p W f σ H fun lk L e st ws a => ∃ b, g a = some b ∧ post lk L e st ws b := tR_opt h
theorem pt_tru (ha : PE X a (tW X p W f)) (he : ∀ whole, isTrue a X.env whole = (do let v ← whole; standAt a.pos; holding [v] (truthy v))) : PT X a (tT X p W (f.bind truM)) :=
  PTmono (pt_truth ha he) fun σ H Q q => tR_mono (tR_opt (g := truD) q) fun lk L e st ws d ⟨b, hb, q⟩ v H' g' => ⟨b, truV_of (g'.wr List.mem_cons_self) hb, q H' g'.dropW⟩
theorem pt_notM {t : M Bool} (ha : PT X a (tT X p W t)) : PT X (.UnaryOp .Not a pos) (tT X p W (t.bind fun b => .ret (!b))) :=
  PTmono (pt_not ha) fun σ H Q q => tR_mono (tR_bind q) fun lk L e st ws d q H' g' => q H' g'
def andT (t u : M Bool) : M Bool := t.bind fun b => if b then u else .ret false
def orT (t u : M Bool) : M Bool := t.bind fun b => if b then .ret true else u
theorem pw_andM {rest : List Expr} {t u : M Bool} (ha : PT X a (tT X p W t)) (hb : PW X (.BoolOp .And (b :: rest) pos) (tT X p W u)) : PW X (.BoolOp .And (a :: b :: rest) pos) (tT X p W (andT t u)) :=
  ⟨fun wh pins s σ H Q I q => (pw_and ha hb).run wh pins s σ H Q I (tR_mono (tR_bind q) fun lk L e st ws d q H' g' => by
    cases d with
    | true => rw [if_pos rfl]; exact ⟨lk, L, e, st, ws, g', q⟩
    | false => rw [if_neg Bool.false_ne_true]; exact q H' g')⟩
theorem pw_orM {rest : List Expr} {t u : M Bool} (ha : PT X a (tT X p W t)) (hb : PW X (.BoolOp .Or (b :: rest) pos) (tT X p W u)) : PW X (.BoolOp .Or (a :: b :: rest) pos) (tT X p W (orT t u)) :=
  ⟨fun wh pins s σ H Q I q => (pw_or ha hb).run wh pins s σ H Q I (tR_mono (tR_bind q) fun lk L e st ws d q H' g' => by
    cases d with
    | false => rw [if_neg Bool.false_ne_true]; exact ⟨lk, L, e, st, ws, g', q⟩
    | true => rw [if_pos rfl]; exact q H' g')⟩
/-- a bool that is a value, as a test (comparisons) -/
theorem pt_cmpM {op : CmpOp} {opD : D → D → Option Nw} (ho : OpN X (compareOp op) opD) (ha : PE X a (tW X p W f)) (hb : PE X b (tW X p W g)) (hm : behindInMarks op b = false) : PT X (.Compare a [op] [b] pos) (tT X p W ((binN opD f g).bind blM)) :=
  PTmono (pt_cmpR ho ha hb hm) fun σ H Q q => by
    have q' : tR X p W (f.bind fun x => g.bind fun y => (newM (opD x y)).bind blM) σ H (fun lk L e st ws b => ∀ H', Gd X p lk L σ H' e st ws → Q b H') := by
      obtain ⟨lk, L, e, st, ws, gd, q⟩ := q
      refine ⟨lk, L, e, st, ws, gd, ?_⟩
      have : (f.bind fun x => g.bind fun y => (newM (opD x y)).bind blM) e = ((binN opD f g).bind blM) e := by
        unfold binN M.bind
        cases f e with
        | ok a e' => dsimp only; cases g e' <;> rfl
        | exc => rfl
        | bad => rfl
      rw [this]; exact q
    refine two_of (R := fun x y H2 => (∀ a o xs, H2 a ≠ some (.frz o (.tup xs))) ∧ ∃ dx dy r, Wr X H2 x dx ∧ Wr X H2 y dy ∧ opD dx dy = some r ∧ NewR X H2 r fun x H' => ∃ k, x = .bl k ∧ Q k H') q' (fun _ q => q) (fun _ _ q => q) fun lk L e st ws x y dx dy H g q => ?_
    unfold newM at q
    cases hop : opD dx dy with
    | none => rw [hop] at q; exact False.elim q
    | some r =>
      rw [hop] at q
      dsimp only at q
      by_cases hok : r.ok = true
      · rw [if_pos hok] at q
        refine ⟨g.nft, dx, dy, r, g.wr (List.mem_cons_of_mem _ List.mem_cons_self), g.wr List.mem_cons_self, hop, ?_⟩
        cases r with
        | sc d =>
          cases d with
          | bl b => exact ⟨_, rfl, _, rfl, q H g.dropW.dropW⟩
          | _ => exact False.elim q
        | nl => exact False.elim q
        | nt => exact False.elim q
      · rw [if_neg hok] at q; exact False.elim q
/-! ### displays, arguments -/
def consM {α : Type} (f : M α) (r : M (List α)) : M (List α) := f.bind fun d => r.bind fun ds => .ret (d :: ds)
theorem pa_nilV : PA X [] (tAV X p W (.ret [])) := PAmono pa_nil fun σ H Q ⟨lk, L, e, st, ws, g, q⟩ => q [] H rfl g
theorem pa_nilW : PA X [] (tAW X p W (.ret [])) := PAmono pa_nil fun σ H Q ⟨lk, L, e, st, ws, g, q⟩ => q [] H rfl g
theorem pa_consV {es : List Expr} {r : M (List D)} (ha : PE X a (tV X p W f)) (hr : PA X es (tAV X p W r)) (hs : starEach (a :: es) X.env = (false, eval a X.env) :: starEach es X.env) : PA X (a :: es) (tAV X p W (consM f r)) :=
  PAmono (pa_cons ha hr hs) fun σ H Q q => tR_mono (tR_bind q) fun lk L e st ws d q v H1 g1 => by
    refine ⟨lk, L, e, (v, d) :: st, ws, g1, ?_⟩
    unfold M.bind at q
    cases hr : r e with
    | ok ds e' =>
      rw [hr] at q
      exact fun vs H2 hl g2 => q (v :: vs) H2 (by simp [hl]) (g2.perm (by rw [List.zip_cons_cons]; exact List.perm_middle))
    | exc c fs e' =>
      rw [hr] at q
      refine fun cls d' H' ⟨h1, h2⟩ => q cls d' H' ⟨h1, h2.elim (fun z => .inl ⟨z.1, z.2.drop⟩) fun ⟨dd, fv, z1, z2, z3, z4⟩ => .inr ⟨dd, fv, z1, z2, z3, ?_⟩⟩
      exact Gd.drop (w := (v, d)) (z4.perm List.perm_middle)
    | bad => rw [hr] at q; exact q
theorem pa_consW {es : List Expr} {r : M (List D)} (ha : PE X a (tW X p W f)) (hr : PA X es (tAW X p W r)) (hs : starEach (a :: es) X.env = (false, eval a X.env) :: starEach es X.env) : PA X (a :: es) (tAW X p W (consM f r)) :=
  PAmono (pa_cons ha hr hs) fun σ H Q q => tR_mono (tR_bind q) fun lk L e st ws d q v H1 g1 => by
    refine ⟨lk, L, e, st, .v v d :: ws, g1, ?_⟩
    unfold M.bind at q
    cases hr : r e with
    | ok ds e' =>
      rw [hr] at q
      refine fun vs H2 hl g2 => q (v :: vs) H2 (by simp [hl]) (g2.subW fun w hw => ?_)
      rw [List.zip_cons_cons, List.map_cons] at hw
      rcases List.mem_cons.mp hw with rfl | hw
      · exact List.mem_append_right _ List.mem_cons_self
      · rcases List.mem_append.mp hw with hw | hw
        · exact List.mem_append_left _ hw
        · exact List.mem_append_right _ (List.mem_cons_of_mem _ hw)
    | exc c fs e' => rw [hr] at q; exact q
    | bad => rw [hr] at q; exact q
def lstM (r : M (List D)) : M D := r.bind fun ds => if ds.length ≤ sizeLine then .ret (.lst .own ds) else .bad
def tupM (r : M (List D)) : M D := r.bind fun ds => if ds.length ≤ sizeLine then .ret (.tup ds) else .bad
theorem pe_lstM {es : List Expr} {r : M (List D)} (h : PA X es (tAV X p W r)) : PE X (.List es pos) (tV X p W (lstM r)) :=
  PEmono (pe_lst h) fun σ H Q q => tR_mono (tR_bind q) fun lk L e st ws ds q vs H1 hl g1 => by
    by_cases hz : ds.length ≤ sizeLine
    · rw [if_pos hz] at q
      refine ⟨by rw [hl]; exact hz, fun a ha => q _ _ (Gd.alloc g1 ha (.lst vs) (.lst .own ds) true fun z G B kK kg hlk hG k rS => ?_)⟩
      have := rS.toL
      rw [zip_fst hl, zip_snd hl] at this
      exact .lst (f := .own) hG hlk this
    · rw [if_neg hz] at q; exact False.elim q
theorem pe_tupM {es : List Expr} {x1 : Nat} {r : M (List D)} (h : PA X es (tAV X p W r)) : PE X (.Tuple es x1 pos) (tV X p W (tupM r)) :=
  PEmono (pe_tup h) fun σ H Q q => tR_mono (tR_bind q) fun lk L e st ws ds q vs H1 hl g1 => by
    by_cases hz : ds.length ≤ sizeLine
    · rw [if_pos hz] at q
      refine ⟨by rw [hl]; exact hz, fun a ha => q _ _ (Gd.alloc g1 ha (.tup vs) (.tup ds) false fun z G B kK kg hlk hG k rS => ?_)⟩
      have := rS.toL
      rw [zip_fst hl, zip_snd hl] at this
      exact .tup (.inl hG) this
    · rw [if_neg hz] at q; exact False.elim q
/-! ### built-in functions by values -/
theorem CallN.of {F : Value} {op : List D → Option Nw} {r : List V → Hp → VK → Prop} (h : CallR X F r) (k : ∀ xs H Q ds n, xs.length = ds.length → (∀ w ∈ xs.zip ds, Wr X H w.1 w.2) → op ds = some n → NewR X H n Q → r xs H Q) : CallN X F op := by
  intro pins s σ H xs us Q I rs ⟨_, ds, n, hl, hw, ho, q⟩
  exact h pins s σ H xs us Q I rs (k xs H Q ds n hl hw ho q)
def callM (op : List D → Option Nw) (r : M (List D)) : M D := r.bind fun ds => newM (op ds)
theorem wr_args {vs : List V} {ds : List D} (g : Gd X p lk L σ H e st ((vs.zip ds).map (fun q => Wk.v q.1 q.2) ++ ws)) : ∀ w ∈ vs.zip ds, Wr X H w.1 w.2 := fun w hw =>
  g.wr (List.mem_append_left _ (List.mem_map.mpr ⟨w, hw, rfl⟩))
theorem pe_callN {id : String} {x : Str} {p1 : Pos} {es : List Expr} {op : List D → Option Nw} {r : M (List D)} (hc : CallN X (.builtin id) op) (hg : Gl X x) (hm : X.mg x = none) (hv : bootBuiltins x = some (.builtin id)) (ha : PA X (a :: es) (tAW X p W r))
    (hn : x ≠ "__name__") (hdb : (x == ("__debug__" : Str)) = false) (he : starEach (a :: es) X.env = (false, eval a X.env) :: starEach es X.env) (hpl : (backTo pos (starEach es X.env)).any (·.1) = false) :
    PE X (.Call (.Name x p1) (a :: es) [] pos) (tV X p W (callM op r)) :=
  PEmono (pe_callB hc hg hm hv ha hn hdb he hpl) fun σ H Q q => tR_mono (tR_bind q) fun lk L e st ws ds q vs H1 hl g1 => by
    have g2 := g1.subW (ws' := ws) fun w hw => List.mem_append_right _ hw
    obtain ⟨n, ho, hn⟩ := newM_run q g2
    exact ⟨g1.nft, ds, n, hl, wr_args g1, ho, hn⟩
theorem pe_callTyN {id : String} {x : Str} {p1 : Pos} {es : List Expr} {op : List D → Option Nw} {r : M (List D)} (hc : CallN X (.type id) op) (hg : Gl X x) (hm : X.mg x = none) (hv : bootBuiltins x = some (.type id)) (ha : PA X (a :: es) (tAW X p W r))
    (hn : x ≠ "__name__") (hdb : (x == ("__debug__" : Str)) = false) (he : starEach (a :: es) X.env = (false, eval a X.env) :: starEach es X.env) (hpl : (backTo pos (starEach es X.env)).any (·.1) = false) :
    PE X (.Call (.Name x p1) (a :: es) [] pos) (tV X p W (callM op r)) :=
  PEmono (pe_callTy hc hg hm hv ha hn hdb he hpl) fun σ H Q q => tR_mono (tR_bind q) fun lk L e st ws ds q vs H1 hl g1 => by
    have g2 := g1.subW (ws' := ws) fun w hw => List.mem_append_right _ hw
    obtain ⟨n, ho, hn⟩ := newM_run q g2
    exact ⟨g1.nft, ds, n, hl, wr_args g1, ho, hn⟩
end
end DG

set_option Elab.async false
set_option linter.all false
set_option maxHeartbeats 4000000
/-! DGi: comparisons, subscripts, slices, the methods and functions that are built in. -/
namespace DG
open PySem PySem.Spec PyProof.Rows L2
set_option autoImplicit false
section
variable {X : Cx} {p : Par} {W : WX} {lk : List Addr} {L : Lk} {σ : L2.St} {H : Hp} {e : Env} {st : Stk} {ws : List Wk} {a b c : Expr} {pos : Pos} {f g h : M D}
/-! ### comparisons of ints; in a text; None -/
def ltD : D → D → Option Nw
  | .int i, .int j => some (.sc (.bl (decide (i < j))))
  | _, _ => none
def leD : D → D → Option Nw
  | .int i, .int j => some (.sc (.bl (decide (i ≤ j))))
  | _, _ => none
def gtD : D → D → Option Nw
  | .int i, .int j => some (.sc (.bl (decide (j < i))))
  | _, _ => none
def geD : D → D → Option Nw
  | .int i, .int j => some (.sc (.bl (decide (j ≤ i))))
  | _, _ => none
theorem on_lt : OpN X (compareOp .Lt) ltD := on_int0 (f := fun i j => .bl (decide (i < j))) op_lt (fun _ _ => rfl) fun dx dy n h => by
  cases dx <;> cases dy <;> simp only [ltD, Option.some.injEq, reduceCtorEq] at h
  exact ⟨_, _, rfl, rfl, h.symm⟩
theorem on_le : OpN X (compareOp .LtE) leD := on_int0 (f := fun i j => .bl (decide (i ≤ j))) op_le (fun _ _ => rfl) fun dx dy n h => by
  cases dx <;> cases dy <;> simp only [leD, Option.some.injEq, reduceCtorEq] at h
  exact ⟨_, _, rfl, rfl, h.symm⟩
theorem on_gt : OpN X (compareOp .Gt) gtD := on_int0 (f := fun i j => .bl (decide (j < i))) op_gt (fun _ _ => rfl) fun dx dy n h => by
  cases dx <;> cases dy <;> simp only [gtD, Option.some.injEq, reduceCtorEq] at h
  exact ⟨_, _, rfl, rfl, h.symm⟩
theorem on_ge : OpN X (compareOp .GtE) geD := on_int0 (f := fun i j => .bl (decide (j ≤ i))) op_ge (fun _ _ => rfl) fun dx dy n h => by
  cases dx <;> cases dy <;> simp only [geD, Option.some.injEq, reduceCtorEq] at h
  exact ⟨_, _, rfl, rfl, h.symm⟩
def subS (x y : Str) : Bool := !(Builtin.Str.occurrences y x 0 y.length 1).isEmpty
def isNon : D → Bool
  | .non => true
  | _ => false
theorem isNon_rp {z : Zo} {H : Hp} {v : V} {d : D} {A : List Addr} (w : Rp z H (.v v d) A) : decide (v = .non) = isNon d := by
  cases w <;> first | rfl | exact decide_eq_false (fun z => nomatch z)
theorem isNon_of {H : Hp} {v : V} {d : D} (w : Wr X H v d) : decide (v = .non) = isNon d := isNon_rp w
def isD : D → D → Option Nw
  | d, .non => some (.sc (.bl (isNon d)))
  | _, _ => none
def isnD : D → D → Option Nw
  | d, .non => some (.sc (.bl (!isNon d)))
  | _, _ => none
theorem on_is : OpN X (compareOp .Is) isD := .of op_isN fun x y H Q dx dy n w1 w2 ho q => by
  cases dy <;> simp only [isD, reduceCtorEq, Option.some.injEq] at ho
  subst ho
  cases Wr_non w2
  obtain ⟨v, hv, q⟩ := q
  cases hv
  exact ⟨rfl, by rw [isNon_of w1]; exact q⟩
theorem on_isn : OpN X (compareOp .IsNot) isnD := .of op_notN fun x y H Q dx dy n w1 w2 ho q => by
  cases dy <;> simp only [isnD, reduceCtorEq, Option.some.injEq] at ho
  subst ho
  cases Wr_non w2
  obtain ⟨v, hv, q⟩ := q
  cases hv
  exact ⟨rfl, by rw [isNon_of w1]; exact q⟩
/-! ### a chain -/
def chainM (o1 o2 : D → D → Option Nw) (f g h : M D) : M D := f.bind fun a => g.bind fun b => (newM (o1 a b)).bind fun r => match r with
  | .bl true => h.bind fun c => newM (o2 b c)
  | .bl false => .ret (.bl false)
  | _ => .bad
abbrev rN (X : Kx) (o : D → D → Option Nw) : R2 := fun x y H Q => (∀ a o xs, H a ≠ some (.frz o (.tup xs))) ∧ ∃ dx dy r, Wr X H x dx ∧ Wr X H y dy ∧ o dx dy = some r ∧ NewR X H r Q
theorem chain_imp {o1 o2 : D → D → Option Nw} {Q : VK} (q : tV X p W (chainM o1 o2 f g h) σ H Q) : tChain (rN X o1) (rN X o2) (tW X p W f) (tW X p W g) (tW X p W h) σ H Q := by
    refine two_of (R := fun x y H2 => (∀ a o xs, H2 a ≠ some (.frz o (.tup xs))) ∧ ∃ dx dy r, Wr X H2 x dx ∧ Wr X H2 y dy ∧ o1 dx dy = some r ∧ NewR X H2 r fun z H3 => ∃ k, z = .bl k ∧ (if k = true then tW X p W h σ H3 fun w' H4 => (∀ a o xs, H4 a ≠ some (.frz o (.tup xs))) ∧ ∃ dx dy r, Wr X H4 y dx ∧ Wr X H4 w' dy ∧ o2 dx dy = some r ∧ NewR X H4 r Q else Q (.bl false) H3))
      q (fun _ q => q) (fun _ _ q => q) fun lk L e st ws x y dx dy H g q => ?_
    unfold newM at q
    cases hop : o1 dx dy with
    | none => rw [hop] at q; exact False.elim q
    | some r =>
      rw [hop] at q
      dsimp only at q
      by_cases hok : r.ok = true
      · rw [if_pos hok] at q
        refine ⟨g.nft, dx, dy, r, g.wr (List.mem_cons_of_mem _ List.mem_cons_self), g.wr List.mem_cons_self, hop, ?_⟩
        cases r with
        | sc d =>
          cases d with
          | bl k =>
            cases k with
            | true =>
              refine ⟨.bl true, rfl, true, rfl, ?_⟩
              rw [if_pos rfl]
              refine ⟨lk, L, e, st, _, g, ?_⟩
              have q : ((h.bind fun c => newM (o2 dy c)) e).run (fun r e' => ∀ (v : V) (H' : Hp), Gd X p lk L σ H' e' ((v, r) :: st) ws → Q v H') (XW X p W lk L σ st) := q
              unfold M.bind at q
              cases hh : h e with
              | ok d e' =>
                rw [hh] at q
                intro v H' g'
                obtain ⟨r, h1, h2⟩ := newM_run q (g'.subW fun w hw => List.mem_cons_of_mem _ (List.mem_cons_of_mem _ (List.mem_cons_of_mem _ hw)))
                exact ⟨g'.nft, dy, d, r, g'.wr (List.mem_cons_of_mem _ List.mem_cons_self), g'.wr List.mem_cons_self, h1, h2⟩
              | exc c fs e' => rw [hh] at q; exact q
              | bad => rw [hh] at q; exact q
            | false =>
              refine ⟨.bl false, rfl, false, rfl, ?_⟩
              rw [if_neg Bool.false_ne_true]
              exact q _ _ (g.dropW.dropW.push fun z G _ _ => .bl false)
          | _ => exact False.elim q
        | nl => exact False.elim q
        | nt => exact False.elim q
      · rw [if_neg hok] at q; exact False.elim q
theorem pe_chainM {op op' : CmpOp} {o1 o2 : D → D → Option Nw} (ho : OpN X (compareOp op) o1) (ho' : OpN X (compareOp op') o2) (ha : PE X a (tW X p W f)) (hb : PE X b (tW X p W g)) (hc : PE X c (tW X p W h))
    (hm : lastMarks [op, op'] [b, c] = false) : PE X (.Compare a [op, op'] [b, c] pos) (tV X p W (chainM o1 o2 f g h)) :=
  PEmono (pe_chain ho ho' ha hb hc hm) fun σ H Q q => chain_imp q
theorem blM_imp {t : TE} {Q : Bool → Hp → Prop} (h : ∀ Q, tV X p W f σ H Q → t σ H Q) (q : tT X p W (f.bind blM) σ H Q) : tTest t σ H Q :=
  h _ (tR_mono (tR_bind q) fun lk L e st ws d q v H' g' => by
    cases d with
    | bl k =>
      have hv : v = .bl k := by
        obtain ⟨S, G, A, B, g⟩ := g'
        cases hs : g.stk with
        | cons r _ => cases r; rfl
      exact ⟨k, hv, q H' g'.drop⟩
    | _ => exact False.elim q)
theorem pt_chainM {op op' : CmpOp} {o1 o2 : D → D → Option Nw} (ho : OpN X (compareOp op) o1) (ho' : OpN X (compareOp op') o2) (ha : PE X a (tW X p W f)) (hb : PE X b (tW X p W g)) (hc : PE X c (tW X p W h))
    (hm : lastMarks [op, op'] [b, c] = false) : PT X (.Compare a [op, op'] [b, c] pos) (tT X p W ((chainM o1 o2 f g h).bind blM)) :=
  PTmono (pt_chain ho ho' ha hb hc hm) fun σ H Q q => blM_imp (fun _ q => chain_imp q) q
/-! ### items -/
theorem Gd.sub {v : V} {f : Fl} {ds : List D} (g : Gd X p lk L σ H e st ws) (h : .v v (.lst f ds) ∈ ws) : ∃ a xs, v = .ref a ∧ Rd H a (.lst xs) ∧ xs.length = ds.length ∧
    ∀ (n : Nat) d, ds[n]? = some d → ∃ x, xs[n]? = some x ∧ Gd X p lk L σ H e st (.v x d :: ws) := by
  obtain ⟨S, G, A, B, g⟩ := g
  have r : Rp (zW X.K X.mg G) G (.v v (.lst f ds)) [] := g.wk _ h
  obtain ⟨a, xs, C, rfl, at0, o, r, q⟩ := r.lst_inv
  have e2 : C = [] := (List.append_eq_nil_iff.mp q.symm).2
  subst e2
  refine ⟨a, xs, rfl, by rw [g.hL]; exact lockAll_rd g.lkd at0.rd, r.lenL, fun n d hd => ?_⟩
  obtain ⟨x, A0, A1, h1, h2, h3, _⟩ := r.focL hd
  have : A0 = [] := by
    have := h3.length_eq
    simp only [List.length_nil, List.length_append] at this
    exact List.eq_nil_of_length_eq_zero (by omega)
  subst this
  exact ⟨x, h1, S, G, A, B, g.less g.env g.stk (fun w hw => (List.mem_cons.mp hw).elim (fun z => z ▸ h2) (g.wk w)) ⟨[], .refl _⟩ g.pin⟩
theorem Gd.subT {v : V} {ds : List D} (g : Gd X p lk L σ H e st ws) (h : .v v (.tup ds) ∈ ws) : ∃ a xs, v = .ref a ∧ SqT X.K H a xs ∧ xs.length = ds.length ∧
    ∀ (n : Nat) d, ds[n]? = some d → ∃ x, xs[n]? = some x ∧ Gd X p lk L σ H e st (.v x d :: ws) := by
  obtain ⟨S, G, A, B, g⟩ := g
  have r : Rp (zW X.K X.mg G) G (.v v (.tup ds)) [] := g.wk _ h
  obtain ⟨a, xs, rfl, t, r⟩ := r.tup_inv
  refine ⟨a, xs, rfl, by rw [g.hL]; exact SqT.mono t.seq fun u => lockAll_rd g.lkd, r.lenL, fun n d hd => ?_⟩
  obtain ⟨x, A0, A1, h1, h2, h3, _⟩ := r.focL hd
  have : A0 = [] := by
    have := h3.length_eq
    simp only [List.length_nil, List.length_append] at this
    exact List.eq_nil_of_length_eq_zero (by omega)
  subst this
  exact ⟨x, h1, S, G, A, B, g.less g.env g.stk (fun w hw => (List.mem_cons.mp hw).elim (fun z => z ▸ h2) (g.wk w)) ⟨[], .refl _⟩ g.pin⟩
def ixD : D → D → Option D
  | .lst _ ds, .int i => atI ds i
  | .tup ds, .int i => atI ds i
  | .str z, .int i => if z.length ≤ sizeLine then (atI z.cps.toList i).map fun c => .str ⟨#[c]⟩ else none
  | .dk _ ks, .str x => getA ks (.inr x)
  | .dk _ ks, .int x => getA ks (.inl x)
  | _, _ => none
def subM (f g : M D) : M D := f.bind fun a => g.bind fun b => .opt (ixD a b)
theorem atI_of {α β : Type} {xs : List α} {ys : List β} {i : Int} {y : β} (h : atI ys i = some y) (hl : xs.length = ys.length) : ∃ n : Nat, ys[n]? = some y ∧ ∀ x : α, xs[n]? = some x → atI xs i = some x := by
  unfold atI at h ⊢
  rw [hl]
  cases q : ixN ys.length i with
  | none => rw [q] at h; cases h
  | some n => rw [q] at h; exact ⟨n, h, fun x hx => hx⟩
theorem PE.or {e : Expr} {t t' : TE} (h : PE X e t) (h' : PE X e t') : PE X e (fun σ H Q => t σ H Q ∨ t' σ H Q) := ⟨fun pins s σ H Q I q => q.elim (h.run pins s σ H Q I) (h'.run pins s σ H Q I)⟩
theorem Gd.subK {v : V} {f : Fl} {ks : List (Key × D)} (g : Gd X p lk L σ H e st ws) (h : .v v (.dk f ks) ∈ ws) : ∃ a xs, v = .ref a ∧ Rd H a (.dK xs) ∧ xs.map (·.1) = ks.map (·.1) ∧
    ∀ k d, getA ks k = some d → ∃ x, getA xs k = some x ∧ Gd X p lk L σ H e st (.v x d :: ws) := by
  obtain ⟨S, G, A, B, g⟩ := g
  have r : Rp (zW X.K X.mg G) G (.v v (.dk f ks)) [] := g.wk _ h
  obtain ⟨a, xs, C, rfl, at0, o, n, r, q⟩ := r.dk_inv
  have e2 : C = [] := (List.append_eq_nil_iff.mp q.symm).2
  subst e2
  refine ⟨a, xs, rfl, by rw [g.hL]; exact lockAll_rd g.lkd at0.rd, r.keysK, fun k d hd => ?_⟩
  obtain ⟨x, A0, A1, h1, h2, h3, _⟩ := r.focK hd
  have : A0 = [] := by
    have := h3.length_eq
    simp only [List.length_nil, List.length_append] at this
    exact List.eq_nil_of_length_eq_zero (by omega)
  subst this
  exact ⟨x, h1, S, G, A, B, g.less g.env g.stk (fun w hw => (List.mem_cons.mp hw).elim (fun z => z ▸ h2) (g.wk w)) ⟨[], .refl _⟩ g.pin⟩
theorem ix_dict (hu : X.A.units + 1 < cLine) : IxR X (fun x y H Q => ∃ a v, x = .ref a ∧ DGet H a y (some v) ∧ Q v H) := by
  intro value slice pins s σ H x y v u Q I rx ry h hs
  obtain ⟨a, z, rfl, g, q⟩ := h
  obtain rfl : v = Value.ref a := rx
  exact tail_any (dict_typeIs I g) PySem.F.slot_dict_getitem.lookup (d_getItem hu I g ry fun w' s3 I3 rw' => ⟨z, H, I3, rw', q⟩) hs
theorem pe_subM (hu : X.A.units + 1 < cLine) (ha : PE X a (tW X p W f)) (hb : PE X b (tW X p W g)) (hs : PlainIx b) : PE X (.Subscript a b pos) (tW X p W (subM f g)) :=
  PEmono (pe_ix (ix_seq.or (ix_dict hu)) ha hb hs) fun σ H Q q => by
      refine two_of (k := fun x y => .opt (ixD x y)) (R := fun x y H2 => rIx X.K x y H2 Q ∨ ∃ a v, x = .ref a ∧ DGet H2 a y (some v) ∧ Q v H2) q (fun _ q => q) (fun _ _ q => q) fun lk L e st ws x y dx dy H g q => ?_
      cases hx : ixD dx dy with
      | none => rw [hx] at q; exact False.elim q
      | some d =>
        rw [hx] at q
        have q : ∀ v H', Gd X p lk L σ H' e st (.v v d :: ws) → Q v H' := q
        have m1 : Wk.v x dx ∈ Wk.v y dy :: Wk.v x dx :: ws := List.mem_cons_of_mem _ List.mem_cons_self
        have wy := g.wr (v := y) (d := dy) List.mem_cons_self
        have fin : ∀ {v}, Gd X p lk L σ H e st (.v v d :: .v y dy :: .v x dx :: ws) → Q v H := fun {v} g' => q v H (g'.subW fun w hw => (List.mem_cons.mp hw).elim (fun z => z ▸ List.mem_cons_self) fun z => List.mem_cons_of_mem _ (List.mem_cons_of_mem _ (List.mem_cons_of_mem _ z)))
        cases dx <;> cases dy <;> simp only [ixD, reduceCtorEq] at hx
        case str.int z i =>
          split at hx
          · rename_i hz
            cases hc : atI z.cps.toList i with
            | none => rw [hc] at hx; cases hx
            | some ch =>
              rw [hc] at hx
              cases hx
              cases Wr_int wy
              cases Wr_str (g.wr m1)
              exact .inl (.inr (.inr ⟨z, i, ch, rfl, rfl, hz, hc, q _ _ (g.dropW.dropW.pushW fun z G _ _ => .str _)⟩))
          · cases hx
        case tup.int ds i =>
          cases Wr_int wy
          obtain ⟨ad, xs, rfl, t, hl, k⟩ := g.subT m1
          obtain ⟨n, h1, h2⟩ := atI_of hx hl
          obtain ⟨v, h3, g'⟩ := k n d h1
          exact .inl (.inr (.inl ⟨ad, xs, i, v, rfl, rfl, t, h2 v h3, fin g'⟩))
        case lst.int f ds i =>
          cases Wr_int wy
          obtain ⟨ad, xs, rfl, t, hl, k⟩ := g.sub m1
          obtain ⟨n, h1, h2⟩ := atI_of hx hl
          obtain ⟨v, h3, g'⟩ := k n d h1
          exact .inl (.inl ⟨ad, xs, i, v, rfl, rfl, .inl t, h2 v h3, fin g'⟩)
        case dk.int f ks i =>
          cases Wr_int wy
          obtain ⟨ad, xs, rfl, t, _, k⟩ := g.subK m1
          obtain ⟨v, h1, g'⟩ := k _ _ hx
          exact .inr ⟨ad, v, rfl, .inl ⟨xs, .inl i, t, rfl, by rw [valV_getA]; exact h1.symm⟩, fin g'⟩
        case dk.str f ks i =>
          cases Wr_str wy
          obtain ⟨ad, xs, rfl, t, _, k⟩ := g.subK m1
          obtain ⟨v, h1, g'⟩ := k _ _ hx
          exact .inr ⟨ad, v, rfl, .inl ⟨xs, .inr i, t, rfl, by rw [valV_getA]; exact h1.symm⟩, fin g'⟩
/-! ### slices -/
def cutD (xs : List D) (lo hi : Option Int) : List D := (xs.drop (HT.sIx xs.length 0 lo)).take (HT.sIx xs.length xs.length hi - HT.sIx xs.length 0 lo)
theorem Rp.cons_inv {z : Zo} {H : Hp} {v : V} {d : D} {vs : List V} {ds : List D} {A : List Addr} (h : Rp z H (.l (v :: vs) (d :: ds)) A) : ∃ A1 A2, Rp z H (.v v d) A1 ∧ Rp z H (.l vs ds) A2 ∧ A = A1 ++ A2 := by
  cases h with
  | cons r rr => exact ⟨_, _, r, rr, rfl⟩
theorem Rp.cons_nil {z : Zo} {H : Hp} {v : V} {d : D} {vs : List V} {ds : List D} (h : Rp z H (.l (v :: vs) (d :: ds)) []) : Rp z H (.v v d) [] ∧ Rp z H (.l vs ds) [] := by
  obtain ⟨A1, A2, r, rr, q⟩ := h.cons_inv
  obtain ⟨e1, e2⟩ := List.append_eq_nil_iff.mp q.symm
  subst e1
  subst e2
  exact ⟨r, rr⟩
theorem Rp.dropL {z : Zo} {H : Hp} : ∀ (n : Nat) {xs : List V} {ds : List D}, Rp z H (.l xs ds) [] → Rp z H (.l (xs.drop n) (ds.drop n)) []
  | 0, _, _, r => r
  | n + 1, [], [], r => r
  | n + 1, x :: xs, d :: ds, r => r.cons_nil.2.dropL n
  | n + 1, [], _ :: _, r => by have := r.lenL; simp at this
  | n + 1, _ :: _, [], r => by have := r.lenL; simp at this
theorem Rp.takeL {z : Zo} {H : Hp} : ∀ (n : Nat) {xs : List V} {ds : List D}, Rp z H (.l xs ds) [] → Rp z H (.l (xs.take n) (ds.take n)) []
  | 0, _, _, _ => .nil
  | n + 1, [], [], r => r
  | n + 1, x :: xs, d :: ds, r => .cons (A := []) (B := []) r.cons_nil.1 (r.cons_nil.2.takeL n)
  | n + 1, [], _ :: _, r => by have := r.lenL; simp at this
  | n + 1, _ :: _, [], r => by have := r.lenL; simp at this
theorem Rp.cutL {z : Zo} {H : Hp} {xs : List V} {ds : List D} (lo hi : Option Int) (r : Rp z H (.l xs ds) []) : Rp z H (.l (cutV xs lo hi) (cutD ds lo hi)) [] := by
  unfold cutV cutD
  rw [r.lenL]
  exact (r.dropL _).takeL _
def sliceD (lo hi : Option Int) : D → Option Nw
  | .lst _ ds => some (.nl (cutD ds lo hi))
  | .str z => if z.length ≤ sizeLine then some (.sc (.str (cutS z lo hi))) else none
  | _ => none
/-- a part of a slice -/
def tO (X : Kx) (p : Par) (W : WX) (f : M (Option Int)) : TO := fun σ H Q => tR X p W f σ H fun lk L e st ws o => ∀ H', Gd X p lk L σ H' e st ws → Q o H'
theorem POmono {e : Option Expr} {t t' : TO} (h : PO X e t) (k : ∀ σ H Q, t' σ H Q → t σ H Q) : PO X e t' := ⟨fun pins s σ H Q I q => h.run pins s σ H Q I (k σ H Q q)⟩
theorem po_noneM : PO X none (tO X p W (.ret none)) := POmono po_none fun σ H Q ⟨lk, L, e, st, ws, g, q⟩ => q H g
def intM (d : D) : M (Option Int) := match d with
  | .int i => .ret (some i)
  | _ => .bad
theorem po_someM (h : PE X a (tW X p W f)) : PO X (some a) (tO X p W (f.bind intM)) := POmono (po_some h) fun σ H Q q => tR_mono (tR_bind q) fun lk L e st ws d q v H' g => by
  cases d with
  | int i => exact ⟨i, Wr_int (g.wr List.mem_cons_self), q H' g.dropW⟩
  | _ => exact False.elim q
def sliM (f : M D) (lo hi : M (Option Int)) : M D := f.bind fun d => lo.bind fun l => hi.bind fun h => newM (sliceD l h d)
theorem pe_sliM {lo hi : Option Expr} {l h : M (Option Int)} {p2 : Pos} (ha : PE X a (tW X p W f)) (hl : PO X lo (tO X p W l)) (hh : PO X hi (tO X p W h)) : PE X (.Subscript a (.Slice lo hi none p2) pos) (tV X p W (sliM f l h)) :=
  PEmono (pe_slice (sl_list.or sl_str) ha hl hh) fun σ H Q q => tR_mono (tR_bind q) fun lk L e st ws d q v H1 g1 => by
    refine ⟨lk, L, e, st, .v v d :: ws, g1, ?_⟩
    unfold M.bind at q
    cases hl : l e with
    | exc => rw [hl] at q; exact q
    | bad => rw [hl] at q; exact q
    | ok lo e1 =>
      rw [hl] at q
      dsimp only at q
      refine fun H2 g2 => ⟨lk, L, e1, st, .v v d :: ws, g2, ?_⟩
      cases hh : h e1 with
      | exc => rw [hh] at q; exact q
      | bad => rw [hh] at q; exact q
      | ok hi e2 =>
        rw [hh] at q
        intro H3 g3
        obtain ⟨r, h1, h2⟩ := newM_run q g3.dropW
        have w := g3.wr (v := v) (d := d) List.mem_cons_self
        cases d <;> simp only [sliceD, reduceCtorEq, Option.some.injEq, Option.ite_none_right_eq_some] at h1
        · obtain ⟨hz, rfl⟩ := h1
          cases Wr_str w
          obtain ⟨v, hv, q⟩ := h2
          cases hv
          exact .inr ⟨_, rfl, hz, q⟩
        · subst h1
          obtain ⟨ad, xs, rfl, rd, r⟩ := Wr_lst w
          exact .inl ⟨ad, xs, rfl, .inl rd, fun a ha => h2.2 a _ ha (r.cutL lo hi)⟩
/-! ### functions -/
def lenD : List D → Option Nw
  | [.str x] => if x.length ≤ sizeLine then some (.sc (.int x.length)) else none
  | [.lst _ ds] => some (.sc (.int ds.length))
  | [.tup ds] => some (.sc (.int ds.length))
  | _ => none
theorem len1 {xs : List V} {d : D} (h : xs.length = [d].length) : ∃ v, xs = [v] := by
  match xs, h with
  | [v], _ => exact ⟨v, rfl⟩
theorem len2 {xs : List V} {d d' : D} (h : xs.length = [d, d'].length) : ∃ v u, xs = [v, u] := by
  match xs, h with
  | [v, u], _ => exact ⟨v, u, rfl⟩
theorem cn_len : CallN X (.builtin "len") lenD := .of call_len fun xs H Q ds n hl hw ho q => by
  unfold lenD at ho
  split at ho
  · rename_i x
    obtain ⟨v, rfl⟩ := len1 hl
    simp only [Option.ite_none_right_eq_some, Option.some.injEq] at ho
    obtain ⟨hz, rfl⟩ := ho
    cases Wr_str (hw (v, .str x) (by simp))
    obtain ⟨v, hv, q⟩ := q
    cases hv
    exact ⟨_, x.length, rfl, ⟨hz, rfl⟩, q⟩
  · rename_i f ds
    obtain ⟨v, rfl⟩ := len1 hl
    cases ho
    obtain ⟨a, xs, rfl, rd, r⟩ := Wr_lst (hw (v, .lst f ds) (by simp))
    obtain ⟨v, hv, q⟩ := q
    cases hv
    exact ⟨_, ds.length, rfl, .inl ⟨xs, .inl rd, r.lenL.symm⟩, q⟩
  · rename_i ds
    obtain ⟨v, rfl⟩ := len1 hl
    cases ho
    obtain ⟨a, xs, rfl, rd, r⟩ := Wr_tup (hw (v, .tup ds) (by simp))
    obtain ⟨v, hv, q⟩ := q
    cases hv
    exact ⟨_, ds.length, rfl, .inr ⟨xs, rd, r.lenL.symm⟩, q⟩
  · cases ho
def minD : List D → Option Nw
  | [.int i, .int j] => some (.sc (.int (if j < i then j else i)))
  | _ => none
def maxD : List D → Option Nw
  | [.int i, .int j] => some (.sc (.int (if j > i then j else i)))
  | _ => none
theorem cn_min (hc : X.calm = true) : CallN X (.builtin "min") minD := .of (call_min2 hc) fun xs H Q ds n hl hw ho q => by
  unfold minD at ho
  split at ho
  · rename_i i j
    obtain ⟨v, u, rfl⟩ := len2 hl
    cases Wr_int (hw (v, .int i) (by simp))
    cases Wr_int (hw (u, .int j) (by simp))
    cases ho
    obtain ⟨v, hv, q⟩ := q
    cases hv
    exact ⟨i, j, rfl, q⟩
  · cases ho
theorem cn_max (hc : X.calm = true) : CallN X (.builtin "max") maxD := .of (call_max2 hc) fun xs H Q ds n hl hw ho q => by
  unfold maxD at ho
  split at ho
  · rename_i i j
    obtain ⟨v, u, rfl⟩ := len2 hl
    cases Wr_int (hw (v, .int i) (by simp))
    cases Wr_int (hw (u, .int j) (by simp))
    cases ho
    obtain ⟨v, hv, q⟩ := q
    cases hv
    exact ⟨i, j, rfl, q⟩
  · cases ho
/-- the type of a value -/
def tyD : D → Option String
  | .non => some "NoneType" | .bl _ => some "bool" | .int _ => some "int" | .str _ => some "str"
  | .tup _ => some "tuple" | .lst _ _ => some "list" | .dk _ _ => some "dict"
  | _ => none
theorem tyX_of {H : Hp} {v : V} {d : D} {t : String} (w : Wr X H v d) (h : tyD d = some t) : TyX X.K H v (.type t) := by
  cases d <;> simp only [tyD, reduceCtorEq, Option.some.injEq] at h <;> subst h
  · cases Wr_non w; exact .base .non
  · cases Wr_bl w; exact .base (.bl _)
  · cases Wr_int w; exact .base (.int _)
  · cases Wr_str w; exact .base (.str _)
  · obtain ⟨a, xs, rfl, rd, r⟩ := Wr_tup w
    rcases rd with (rd | ⟨o, rd⟩) | ⟨o, its, n, e, c, _⟩
    · exact .base (.tup rd)
    · exact .fTuple rd
    · exact .kTuple e c
  · obtain ⟨a, xs, rfl, rd, r⟩ := Wr_lst w
    rcases rd with rd | ⟨o, rd⟩
    · exact .base (.lst rd)
    · exact .base (.frz rd)
  · obtain ⟨a, xs, B, rfl, at0, _⟩ := Rp.dk_inv w
    rcases at0.rd with rd | ⟨o, rd⟩
    · exact .base (.dK rd)
    · exact .fDict rd
def isiD : List D → Option Nw
  | [d, .ty t] => (tyD d).bind fun u => (kitB u t).map fun b => .sc (.bl b)
  | _ => none
theorem cn_isi : CallN X (.builtin "isinstance") isiD := .of call_isi fun xs H Q ds n hl hw ho q => by
  unfold isiD at ho
  split at ho
  · rename_i d t
    obtain ⟨v, u, rfl⟩ := len2 hl
    have w1 := hw (v, d) (by simp)
    have w2 := hw (u, .ty t) (by simp)
    have e : ∀ {z : Zo} {H : Hp} {A : List Addr}, Rp z H (.v u (.ty t)) A → u = .ty t := fun h => by cases h; rfl
    obtain rfl := e w2
    cases h1 : tyD d with
    | none => rw [h1] at ho; cases ho
    | some tt =>
      rw [h1] at ho
      dsimp only [Option.bind] at ho
      cases h2 : kitB tt t with
      | none => rw [h2] at ho; cases ho
      | some b =>
        rw [h2] at ho
        cases ho
        obtain ⟨v', hv, q⟩ := q
        cases hv
        exact ⟨v, .ty t, .type tt, .type t, b, rfl, .ty t, tyX_of w1 h1, kit_ty h2, q⟩
  · cases ho
end
end DG

set_option Elab.async false
set_option linter.all false
set_option maxHeartbeats 4000000
/-! DGj: places by expressions; what writes there. -/
namespace DG
open PySem PySem.Spec PyProof.Rows L2
set_option autoImplicit false
section
variable (X : Kx) (p : Par) (W : WX)
/-- an expression that is a place -/
def tP (f : M (Nat × Pth)) : TE := fun σ H Q => tR X p W f σ H fun lk L e st ws q => ∀ x H', Gd X p lk L σ H' e st (.p q.1 q.2 x :: ws) → Q x H'
/-- a value where nothing weak is pending: it may write -/
def tV0 (f : M D) : TE := fun σ H Q => ∃ lk L e st, Gd X p lk L σ H e st [] ∧ (f e).run (fun d e' => ∀ v H', Gd X p lk L σ H' e' ((v, d) :: st) [] → Q v H') (XW X p W lk L σ st)
end
section
variable {X : Cx} {p : Par} {W : WX} {lk : List Addr} {L : Lk} {σ : L2.St} {H : Hp} {e : Env} {st : Stk} {ws : List Wk} {a b c : Expr} {pos : Pos} {f g h : M D}
theorem pe_zero (h : PE X a (tV X p W f)) : PE X a (tV0 X p W f) := PEmono h fun σ H Q ⟨lk, L, e, st, g, q⟩ => ⟨lk, L, e, st, [], g, q⟩
/-- what is known of a pending place -/
theorem Gd.plD {i : Nat} {π : Pth} {x : V} {r d : D} (g : Gd X p lk L σ H e st ws) (h : .p i π x ∈ ws) (he : e[i]? = some (some r)) (hp : getP r π = some d) (hi : imm d = false) : Gd X p lk L σ H e st (.v x (lend d) :: ws) := by
  obtain ⟨S, G, A, B, g⟩ := g
  obtain ⟨v, A1, A2, h1, h2, h3, h4⟩ := g.env.split he
  obtain ⟨v0, A0, A1r, k1, k2, k3, k4⟩ := h2.focP hp hi
  obtain ⟨hn, v', e1, e2⟩ : i < p.nl ∧ PlV σ G i π x := g.wk _ h
  rw [h1] at e1; cases e1
  obtain rfl := e2.inj k1
  exact ⟨S, G, A, B, g.less g.env g.stk (fun w hw => (List.mem_cons.mp hw).elim (fun z => z ▸ k2.lend) (g.wk w)) ⟨[], .refl _⟩ g.pin⟩
theorem Gd.slotP {i : Nat} {d : D} (g : Gd X p lk L σ H e st ws) (h : e[i]? = some (some d)) (hn : i < p.nl) : ∃ v, σ[i]? = some (some v) ∧ Gd X p lk L σ H e st (.p i [] v :: ws) := by
  obtain ⟨S, G, A, B, g⟩ := g
  obtain ⟨v, A1, A2, h1, h2, h3, h4⟩ := g.env.split h
  exact ⟨v, h1, S, G, A, B, g.less g.env g.stk (fun w hw => (List.mem_cons.mp hw).elim (fun z => z ▸ ⟨hn, v, h1, rfl⟩) (g.wk w)) ⟨[], .refl _⟩ g.pin⟩
def slotP (nl i : Nat) : M (Nat × Pth) := fun e => match e[i]? with
  | some (some _) => if i < nl then .ok (i, []) e else .bad
  | _ => .bad
theorem pe_slotP {i : Nat} {x : Str} {pos : Pos} (hN : X.N[i]? = some x) (hv : Vis X.env.scope x) (hd : (x == ("__debug__" : Str)) = false) (hcd : (x == ("__classdict__" : Str)) = false) : PE X (.Name x pos) (tP X p W (slotP p.nl i)) :=
  PEmono (pe_var hN hv hd hcd) fun σ H Q ⟨lk, L, e, st, ws, g, q⟩ => by
    unfold slotP at q
    cases he : e[i]? with
    | none => rw [he] at q; exact False.elim q
    | some o =>
      cases o with
      | none => rw [he] at q; exact False.elim q
      | some d =>
        rw [he] at q
        dsimp only at q
        by_cases hi : i < p.nl
        · rw [if_pos hi] at q
          obtain ⟨v, h1, h2⟩ := g.slotP he hi
          exact ⟨v, h1, q v H h2⟩
        · rw [if_neg hi] at q; exact False.elim q
/-- what stands at a place -/
def atP (q : Nat × Pth) (e : Env) : Option D := match e[q.1]? with
  | some (some r) => getP r q.2
  | _ => none
def setAt (q : Nat × Pth) (d : D) (e : Env) : Env := match e[q.1]? with
  | some (some r) => e.set q.1 (some (setP r q.2 d))
  | _ => e
theorem atP_of {q : Nat × Pth} {d : D} (h : atP q e = some d) : ∃ r, e[q.1]? = some (some r) ∧ getP r q.2 = some d ∧ ∀ d', setAt q d' e = e.set q.1 (some (setP r q.2 d')) := by
  unfold atP at h
  cases he : e[q.1]? with
  | none => rw [he] at h; cases h
  | some o =>
    cases o with
    | none => rw [he] at h; cases h
    | some r => rw [he] at h; exact ⟨r, rfl, h, fun d' => by unfold setAt; rw [he]⟩
theorem RpS.keep {z : Zo} {G G' : Hp} {a : Addr} (k : ∀ g A, Rp z G g A → a ∉ A → Rp z G' g A) {st : Stk} {B : List Addr} (h : RpS z G st B) (hB : a ∉ B) : RpS z G' st B := by
  induction h with
  | nil => exact .nil
  | cons r _ ih => exact .cons (k _ _ r fun q => hB (List.mem_append_left _ q)) (ih fun q => hB (List.mem_append_right _ q))
/-! ### a list written -/
theorem Gd.lstW {st0 front : Stk} {q : Nat × Pth} {ds : List D} {x : V} (g : Gd X p lk L σ H e (front ++ st0) ws) (h : atP q e = some (.lst .own ds)) (hx : PlV σ H q.1 q.2 x) (hw : ∀ w ∈ ws, w.imm = true) :
    ∃ a xs, x = .ref a ∧ H a = some (.lst xs) ∧ xs.length = ds.length ∧
      ∀ (xs' : List V) (ds' : List D) (back : Stk), (∀ (z : Zo) (G : Hp) (A B : List Addr), Rp z G (.l xs ds) A → RpS z G front B → ∃ C A' B', Rp z G (.l xs' ds') A' ∧ RpS z G back B' ∧ (A ++ B).Perm (C ++ (A' ++ B'))) →
        Gd X p lk L σ (upd H a (.lst xs')) (setAt q (.lst .own ds') e) (back ++ st0) ws := by
  obtain ⟨r, he, hp, hs⟩ := atP_of h
  obtain ⟨a, u, rfl, hH, hM, _, z, G, A0, B1, kK, kg, hlk, hG, r0, s0, nd, k⟩ := g.change he hp rfl hx hw
  obtain ⟨a', xs, C0, e1, at0, o, rl, eA⟩ := r0.lst_inv
  cases e1
  have hu : u = .lst xs := by
    have : G a = some (.lst xs) := at0
    rw [hG] at this; exact Option.some.inj this
  subst hu
  refine ⟨a, xs, rfl, hH, rl.lenL, fun xs' ds' back tr => ?_⟩
  rw [hs]
  subst eA
  have ha : a ∉ C0 ++ B1 := (List.nodup_cons.mp (show (a :: (C0 ++ B1)).Nodup from nd)).1
  -- the transformation is asked once, in the old heap, for the addresses
  obtain ⟨C, A', B', t1, t2, t3⟩ := tr z G C0 B1 rl s0
  refine k (.lst xs') (.lst .own ds') back C (a :: A') B' (fun G' hG' keep => ?_) ?_ (fun _ _ z => nomatch z)
  · have hperm := t3
    have hA' : a ∉ A' := fun z => ha (hperm.mem_iff.mpr (List.mem_append_right _ (List.mem_append_left _ z)))
    have hB' : a ∉ B' := fun z => ha (hperm.mem_iff.mpr (List.mem_append_right _ (List.mem_append_right _ z)))
    refine ⟨Rp.lst (f := .own) hG' hlk (keep _ _ t1 hA'), ?_⟩
    exact t2.keep keep hB'
  · show (a :: (C0 ++ B1)).Perm (C ++ (a :: (A' ++ B')))
    exact (List.Perm.cons a t3).trans List.perm_middle.symm
def appM (fp : M (Nat × Pth)) (g : M D) : M D := fp.bind fun q => fun e => match atP q e with
  | some (.lst _ _) => (g.bind fun d => fun e => match atP q e with
    | some (.lst .own ds) => if ds.length < sizeLine then .ok .non (setAt q (.lst .own (ds ++ [d])) e) else .bad
    | _ => .bad) e
  | _ => .bad
theorem pe_appM {fp : M (Nat × Pth)} {o : Expr} {apos cpos : Pos} (ho : PE X o (tP X p W fp)) (ha : PE X a (tV X p W g))
    (hbase : attributeBase o "append" X.env (eval o X.env) = eval o X.env) (hline : (apos.endLine == cpos.line) = true) (hs : starEach [a] X.env = [(false, eval a X.env)]) :
    PE X (.Call (.Attribute o "append" apos) [a] [] cpos) (tV0 X p W (appM fp g)) := by
  have hA : PA X [a] (tCons (tV X p W g) tNil) := pa_cons ha pa_nil hs
  refine PEmono (pe_bm PySem.F.plainAttrs_list PySem.F.slot_list_append PySem.F.type_list_append mt_append ho hA hbase (by rw [hs]; rfl) hline hs rfl) fun σ H Q ⟨lk, L, e, st, gd, q⟩ => ?_
  refine ⟨lk, L, e, st, [], gd, ?_⟩
  unfold appM M.bind at q
  cases hf : fp e with
  | exc => rw [hf] at q; exact q
  | bad => rw [hf] at q; exact q
  | ok pl e1 =>
    rw [hf] at q
    dsimp only at q
    intro x H1 g1
    cases h1 : atP pl e1 with
    | none => rw [h1] at q; exact False.elim q
    | some d1 =>
      rw [h1] at q
      cases d1 with
      | lst f1 ds1 =>
        dsimp only at q
        obtain ⟨r1, he1, hp1, _⟩ := atP_of h1
        obtain ⟨a1, xs1, rfl, rd1, _⟩ := Wr_lst ((g1.plD List.mem_cons_self he1 hp1 rfl).wr List.mem_cons_self)
        refine ⟨.inl ⟨rfl, xs1, .inl rd1⟩, ⟨lk, L, e1, st, [.p pl.1 pl.2 (.ref a1)], g1, ?_⟩⟩
        cases hg : g e1 with
        | exc => rw [hg] at q; exact q
        | bad => rw [hg] at q; exact q
        | ok d e2 =>
          rw [hg] at q
          dsimp only at q
          intro y H2 g2
          cases h2 : atP pl e2 with
          | none => rw [h2] at q; exact False.elim q
          | some d2 =>
            rw [h2] at q
            cases d2 with
            | lst f2 ds =>
              cases f2 with
              | own =>
                dsimp only at q
                by_cases hz : ds.length < sizeLine
                · rw [if_pos hz] at q
                  have hx := g2.pl (List.mem_cons_self)
                  have g3 := g2.subW (ws' := []) (fun w hw => by cases hw)
                  obtain ⟨a2, xs, e3, hH, hl, k⟩ := Gd.lstW (front := [(y, d)]) g3 h2 hx (fun w hw => by cases hw)
                  cases e3
                  refine ⟨a1, xs, y, rfl, rfl, hH, by rw [hl]; exact hz, q _ _ (Gd.push (k (xs ++ [y]) (ds ++ [d]) [] fun z G A B r rS => ?_) fun z G _ _ => .non)⟩
                  refine ⟨[], A ++ B, [], r.appL ?_, .nil, by simp⟩
                  have := rS.toL
                  exact this
                · rw [if_neg hz] at q; exact False.elim q
              | _ => exact False.elim q
            | _ => exact False.elim q
      | _ => exact False.elim q
end
end DG

set_option Elab.async false
set_option linter.all false
set_option maxHeartbeats 4000000
/-! DGk: statements; loops. -/
namespace DG
open PySem PySem.Spec PyProof.Rows L2
set_option autoImplicit false
inductive Fw where
  | next | brk | cont | ret (d : D)
section
variable (X : Kx) (p : Par) (W : WX)
def XS (lk : List Addr) (L : Lk) (st : Stk) : Str → List (Str × D) → Env → Prop := fun c fs e' => ∀ σ cls d H', ExG X p lk L σ H' e' st c fs cls d → W cls d σ H'
def FwK (lk : List Addr) (L : Lk) (st : Stk) (D : Ends) (fl : Fw) (e' : Env) : Prop := match fl with
  | .next => ∀ σ' H', Gd X p lk L σ' H' e' st [] → D.nx σ' H'
  | .brk => ∀ σ' H', Gd X p lk L σ' H' e' st [] → D.bk σ' H'
  | .cont => ∀ σ' H', Gd X p lk L σ' H' e' st [] → D.ct σ' H'
  | .ret d => ∀ v σ' H', Gd X p lk L σ' H' e' ((v, d) :: st) [] → D.rt v H'
def tS (f : M Fw) : TS := fun D σ H => ∃ lk L e st, Gd X p lk L σ H e st [] ∧ (f e).run (FwK X p lk L st D) (XS X p W lk L st)
/-- a target of an assignment -/
def tG (f : DG.D → Env → Option Env) : TG := fun v σ H Q => ∃ lk L e st ws d e', Gd X p lk L σ H e ((v, d) :: st) ws ∧ f d e = some e' ∧ ∀ σ' H', Gd X p lk L σ' H' e' st ws → Q σ' H'
end
theorem Res.run_mono {α : Type} {r : Res α} {ok ok' : α → Env → Prop} {ex ex' : Str → List (Str × D) → Env → Prop} (h : r.run ok ex) (k1 : ∀ a e, ok a e → ok' a e) (k2 : ∀ c fs e, ex c fs e → ex' c fs e) : r.run ok' ex' := by
  cases r with
  | ok a e => exact k1 _ _ h
  | exc c fs e => exact k2 _ _ _ h
  | bad => exact h
theorem run_bind {α β : Type} {f : M α} {g : α → M β} {e : Env} {ok : β → Env → Prop} {ex : Str → List (Str × D) → Env → Prop} (h : (f.bind g e).run ok ex) : (f e).run (fun a e' => (g a e').run ok ex) ex := by
  unfold M.bind at h
  cases hf : f e with
  | ok a e' => rw [hf] at h; exact h
  | exc c fs e' => rw [hf] at h; exact h
  | bad => rw [hf] at h; exact h
section
variable {X : Cx} {p : Par} {W : WX} {lk : List Addr} {L : Lk} {σ : L2.St} {H : Hp} {e : Env} {st : Stk} {ws : List Wk} {a b c : Expr} {pos : Pos} {f g h : M D}
theorem PSmono {s : Stmt} {t t' : TS} (h : PS X s t) (k : ∀ D σ H, t' D σ H → t D σ H) : PS X s t' := ⟨fun pins s σ H D I q => h.run pins s σ H D I (k D σ H q)⟩
theorem PSsmono {s : List Stmt} {t t' : TS} (h : PSs X s t) (k : ∀ D σ H, t' D σ H → t D σ H) : PSs X s t' := ⟨fun pins s σ H D I q => h.run pins s σ H D I (k D σ H q)⟩
theorem PGmono {s : Expr} {t t' : TG} (h : PG X s t) (k : ∀ v σ H Q, t' v σ H Q → t v σ H Q) : PG X s t' := ⟨fun pins s σ H v u Q I r q => h.run pins s σ H v u Q I r (k v σ H Q q)⟩
def seqM (f g : M Fw) : M Fw := f.bind fun fl => match fl with
  | .next => g
  | .brk => .ret .brk
  | .cont => .ret .cont
  | .ret d => .ret (.ret d)
theorem pss_nilM : PSs X [] (tS X p W (.ret .next)) := PSsmono pss_nil fun D σ H ⟨lk, L, e, st, g, q⟩ => q σ H g
theorem pss_consM {s : Stmt} {r : List Stmt} {f g : M Fw} (h1 : PS X s (tS X p W f)) (h2 : PSs X r (tS X p W g)) : PSs X (s :: r) (tS X p W (seqM f g)) :=
  PSsmono (pss_cons h1 h2) fun D σ H ⟨lk, L, e, st, gd, q⟩ => by
    refine ⟨lk, L, e, st, gd, Res.run_mono (run_bind q) (fun fl e' q => ?_) fun _ _ _ q => q⟩
    cases fl with
    | next => exact fun σ' H' g' => ⟨lk, L, e', st, g', q⟩
    | brk => exact q
    | cont => exact q
    | ret d => exact q
theorem pss_oneM {s : Stmt} {f : M Fw} (h1 : PS X s (tS X p W f)) : PSs X [s] (tS X p W f) := pss_one h1
theorem XS.xw {st : Stk} : ∀ c fs e, XS X p W lk L st c fs e → XW X p W lk L σ st c fs e := fun c fs e h cls d H' q => h σ cls d H' q
/-- an expression for its doing -/
theorem ps_exprM (he : PE X a (tV0 X p W f)) (hs : swapsWith a none pos.line X.env = pure false) : PS X (.Expr a pos) (tS X p W (f.bind fun _ => .ret .next)) :=
  PSmono (ps_expr he hs) fun D σ H ⟨lk, L, e, st, g, q⟩ => ⟨lk, L, e, st, g, Res.run_mono (run_bind q) (fun d e' q v H' g' => q σ H' g'.drop) XS.xw⟩
theorem ps_retM (he : PE X a (tV0 X p W f)) : PS X (.Return (some a) pos) (tS X p W (f.bind fun d => .ret (.ret d))) :=
  PSmono (ps_ret he) fun D σ H ⟨lk, L, e, st, g, q⟩ => ⟨lk, L, e, st, g, Res.run_mono (run_bind q) (fun d e' q v H' g' => q v σ H' g') XS.xw⟩
theorem ps_retNM : PS X (.Return none pos) (tS X p W (.ret (.ret .non))) :=
  PSmono ps_retN fun D σ H ⟨lk, L, e, st, g, q⟩ => q .non σ H (g.push fun z G _ _ => .non)
theorem ps_docM {x : Str} {j : Option String} {pos pos' : Pos} : True := trivial
theorem ps_brkM : PS X (.Break pos) (tS X p W (.ret .brk)) := PSmono ps_break fun D σ H ⟨lk, L, e, st, g, q⟩ => q σ H g
theorem ps_contM : PS X (.Continue pos) (tS X p W (.ret .cont)) := PSmono ps_continue fun D σ H ⟨lk, L, e, st, g, q⟩ => q σ H g
theorem ps_ifM {t : M Bool} {s1 s2 : List Stmt} {f1 f2 : M Fw} (hc : PT X c (tT X p W t)) (h1 : PSs X s1 (tS X p W f1)) (h2 : PSs X s2 (tS X p W f2)) : PS X (.If c s1 s2 pos) (tS X p W (t.bind fun b => if b then f1 else f2)) :=
  PSmono (ps_if hc h1 h2) fun D σ H ⟨lk, L, e, st, g, q⟩ => ⟨lk, L, e, st, [], g, Res.run_mono (run_bind q) (fun b e' q H' g' => by
    cases b with
    | true => rw [if_pos rfl]; exact ⟨lk, L, e', st, g', q⟩
    | false => rw [if_neg Bool.false_ne_true]; exact ⟨lk, L, e', st, g', q⟩) XS.xw⟩
/-! ### names stored -/
def putE (io : Bool) (i : Nat) (d : D) (e : Env) : Option Env := if i < e.length ∧ (io = false ∨ i ≠ 0) then some (e.set i (some d)) else none
def liftT (f : D → Env → Option Env) (d : D) : M Unit := fun e => match f d e with
  | some e' => .ok () e'
  | none => .bad
theorem run_lift {f : D → Env → Option Env} {d : D} {e : Env} {ok : Unit → Env → Prop} {ex : Str → List (Str × D) → Env → Prop} (h : (liftT f d e).run ok ex) : ∃ e', f d e = some e' ∧ ok () e' := by
  unfold liftT at h
  cases q : f d e with
  | none => rw [q] at h; exact False.elim h
  | some e' => rw [q] at h; exact ⟨e', rfl, h⟩
theorem putE_of {io : Bool} {i : Nat} {d : D} {e e' : Env} (h : putE io i d e = some e') : i < e.length ∧ (io = false ∨ i ≠ 0) ∧ e' = e.set i (some d) := by
  unfold putE at h
  split at h
  · rename_i hz; cases h; exact ⟨hz.1, hz.2, rfl⟩
  · cases h
theorem ps_setM {i : Nat} {x : Str} {io : Bool} {pos' : Pos} (hio : io = false → p.io = none) (hN : X.N.Nodup) (hi : X.N[i]? = some x) (hx : Loc X.env.scope x) (he : PE X a (tV0 X p W f)) (hs : swapsWith a (some (.Name x pos')) pos.line X.env = pure false) (hf : X.fn x = true ∨ X.env.scope.names.lookup x = some .local) :
    PS X (.Assign [.Name x pos'] a pos) (tS X p W (f.bind fun d => (liftT (putE io i) d).bind fun _ => .ret .next)) :=
  PSmono (ps_set hN hi hx he hs hf) fun D σ H ⟨lk, L, e, st, g, q⟩ => ⟨lk, L, e, st, g, Res.run_mono (run_bind q) (fun d e' q v H' g' => by
    obtain ⟨e2, he, q⟩ := run_lift (run_bind q)
    obtain ⟨h1, h2, rfl⟩ := putE_of he
    exact q _ _ (g'.store h1 (h2.elim (fun z => .inl (hio z)) .inr) (.inl rfl))) XS.xw⟩
theorem pg_nameM {i : Nat} {x : Str} {io : Bool} {pos' : Pos} (hio : io = false → p.io = none) (hN : X.N.Nodup) (hi : X.N[i]? = some x) (hx : Loc X.env.scope x) (hf : X.fn x = true ∨ X.env.scope.names.lookup x = some .local) (hn : p.nl ≤ i) :
    PG X (.Name x pos') (tG X p (putE io i)) :=
  PGmono (pg_name hN hi hx hf) fun v σ H Q ⟨lk, L, e, st, ws, d, e', g, he, q⟩ => by
    obtain ⟨h1, h2, rfl⟩ := putE_of he
    exact q _ _ (g.store h1 (h2.elim (fun z => .inl (hio z)) .inr) (.inr hn))
/-- .. where nothing weak is pending -/
def tG0 (X : Kx) (p : Par) (f : DG.D → Env → Option Env) : TG := fun v σ H Q => ∃ lk L e st d e', Gd X p lk L σ H e ((v, d) :: st) [] ∧ f d e = some e' ∧ ∀ σ' H', Gd X p lk L σ' H' e' st [] → Q σ' H'
theorem pg_name0 {i : Nat} {x : Str} {io : Bool} {pos' : Pos} (hio : io = false → p.io = none) (hN : X.N.Nodup) (hi : X.N[i]? = some x) (hx : Loc X.env.scope x) (hf : X.fn x = true ∨ X.env.scope.names.lookup x = some .local) :
    PG X (.Name x pos') (tG0 X p (putE io i)) :=
  PGmono (pg_name hN hi hx hf) fun v σ H Q ⟨lk, L, e, st, d, e', g, he, q⟩ => by
    obtain ⟨h1, h2, rfl⟩ := putE_of he
    exact q _ _ (g.store h1 (h2.elim (fun z => .inl (hio z)) .inr) (.inl rfl))
/-! ### what a loop walks -/
def noOwn : Fl → Bool
  | .own => false
  | .lk _ => false
  | _ => true
/-- a strong value is frozen -/
theorem Gd.freeze {v : V} {d : D} {io : Bool} (g : Gd X p lk L σ H e ((v, d) :: st) ws) (hl : allF noLk d = true) (hio : io = false → p.O = []) : Gd X p lk L σ H e ((v, share io d) :: st) ws := by
  obtain ⟨S, G, A, B, g⟩ := g
  cases hs : g.stk with
  | @cons _ _ A1 B1 h2 rr =>
    let S' : Addr → Prop := fun a => S a ∨ a ∈ A1
    have zl : ZLe (zo X p S lk) (zo X p S' lk) := ⟨rfl, rfl, fun a h => .inl h, fun _ h => h, fun _ _ h => h, rfl⟩
    have hperm : (A ++ (A1 ++ B1)).Perm (A1 ++ (A ++ B1)) := List.perm_iff_count.mpr fun x => by simp only [List.count_append]; omega
    have hnd : (A1 ++ (A ++ B1)).Nodup := hperm.nodup_iff.mp g.nd
    have hdis : ∀ a ∈ A ++ B1, a ∉ A1 := fun a ha hb => (List.nodup_append.mp hnd).2.2 a hb a ha rfl
    have sub : ∀ a ∈ A ++ B1, a ∈ A ++ (A1 ++ B1) := fun a ha => hperm.mem_iff.mpr (List.mem_append_right _ ha)
    have sub1 : ∀ a ∈ A1, a ∈ A ++ (A1 ++ B1) := fun a ha => hperm.mem_iff.mpr (List.mem_append_left _ ha)
    have r : Rp (zo X p S' lk) G (.v v (share io d)) [] := h2.remark (P := noLk) (m := shF io) rfl rfl hl fun f a hf o hu hA => by
      cases f with
      | own =>
        have ha : a ∈ A1 := hA a (by simp [FlA])
        cases io with
        | true => exact ⟨rfl, .inr ha⟩
        | false =>
          refine ⟨rfl, .inr ha, ?_⟩
          rcases g.ow a (sub1 a ha) with q | q
          · exact q
          · rw [hio rfl] at q; cases q
      | fr => exact ⟨rfl, .inl o.1, o.2⟩
      | sh => exact ⟨rfl, .inl o⟩
      | ro => exact ⟨rfl, o⟩
      | lk n => simp [noLk] at hf
    refine ⟨S', G, A, B1, ⟨g.ok, g.hL, g.lkd, fun a od q => (g.lkz a od q).elim (fun z => .inl (.inl z)) .inr, g.lke, g.env.mono zl .refl fun _ _ => rfl, .cons (A := []) r (rr.mono zl .refl fun _ _ => rfl), g.wk,
      (List.nodup_append.mp hnd).2.1, fun a ha => ⟨fun q => q.elim (g.dj a (sub a ha)).1 (hdis a ha), (g.dj a (sub a ha)).2⟩, fun a ha => g.ow a (sub a ha), fun a ha => .inl (g.s0 a ha), fun a ha => ?_, g.fr, g.oo, g.pin, g.nf⟩⟩
    rcases ha with ha | ha
    · exact g.sd a ha
    · refine ⟨?_, ?_⟩
      · rcases g.ow a (sub1 a ha) with q | q
        · exact .inr (.inl q)
        · exact .inr (.inr q)
      · obtain ⟨u, hu, _⟩ := h2.dom a ha
        exact ⟨u, hu⟩
/-- the iterator J gives the things ds, while what is pending stands -/
def ItD (X : Kx) (p : Par) (lk : List Addr) (L : Lk) (J : It) (ds : List DG.D) (st' : Stk) : Prop :=
  ∀ (L' : Lk), L'.lo = L.lo → ∀ (i : Nat) (σ : L2.St) (H : Hp) (e : Env) (front : Stk) (ws : List Wk), Gd X p lk L' σ H e (front ++ st') ws →
    (∀ d, ds[i]? = some d → J.go i H ∧ ∀ x H', J.yld i H x H' → Gd X p lk L' σ H' e ((x, d) :: (front ++ st')) ws) ∧ (ds[i]? = none → J.stop i H)
/-- a source of a loop -/
def tI (X : Kx) (p : Par) (W : WX) (f : M (List DG.D)) : TI := fun σ H R => tR X p W f σ H fun lk L e st ws ds => ∀ J H' st', Gd X p lk L σ H' e (st' ++ st) ws → ItD X p lk L J ds (st' ++ st) → R J H'
theorem PImono {tg i : Expr} {t t' : TI} (h : PI X tg i t) (k : ∀ σ H R, t' σ H R → t σ H R) : PI X tg i t' := ⟨fun pins s σ H R I q => h.run pins s σ H R I (k σ H R q)⟩
theorem Gd.dropN : ∀ {st' : Stk}, Gd X p lk L σ H e (st' ++ st) ws → Gd X p lk L σ H e st ws
  | [], g => g
  | _ :: st', g => Gd.dropN (st' := st') g.drop
/-- an item of a frozen list that is pending -/
theorem Gd.item {front st' : Stk} {v : V} {f : Fl} {ds : List D} (g : Gd X p lk L σ H e (front ++ (v, .lst f ds) :: st') ws) (hn : allFL noOwn ds = true) : ∃ a xs, v = .ref a ∧ Rd H a (.lst xs) ∧ xs.length = ds.length ∧
    ∀ (i : Nat) x d, xs[i]? = some x → ds[i]? = some d → Gd X p lk L σ H e ((x, d) :: (front ++ (v, .lst f ds) :: st')) ws := by
  obtain ⟨S, G, A, B, g⟩ := g
  obtain ⟨B1, B2, s1, s2, rfl⟩ := RpS.unappend g.stk
  cases s2 with
  | @cons _ _ B3 B4 r rr =>
    obtain ⟨a, xs, C, e1, at0, o, rl, q⟩ := r.lst_inv
    have e1 : v = .ref a := e1
    subst e1
    refine ⟨a, xs, rfl, by rw [g.hL]; exact lockAll_rd g.lkd at0.rd, rl.lenL, fun i x d hx hd => ?_⟩
    obtain ⟨x', A0, A1, h1, h2, h3, _⟩ := rl.focL hd
    rw [hx] at h1
    cases h1
    -- it owns nothing
    have hA : A0 = [] := by
      have r2 := h2.remark (z' := zo X p S lk) (m := id) (P := noOwn) rfl rfl (show allF noOwn d = true from allFL_get hn hd) fun f a hf o _ _ => by cases f <;> first | exact ⟨rfl, o⟩ | (simp [noOwn] at hf)
      have : ∀ b ∈ A0, False := fun b hb => by
        have key : ∀ {g' : Sg} {A' : List Addr}, Rp (zo X p S lk) G g' A' → allS noOwn g' = true → A' = [] := by
          intro g' A' hr hp
          induction hr with
          | tup _ _ ih => exact ih hp
          | @lst f _ _ _ _ _ _ _ ih => simp only [allS, allF, Bool.and_eq_true] at hp; rw [ih hp.2]; cases f <;> first | rfl | (simp [noOwn] at hp)
          | @dk f _ _ _ _ _ _ _ _ ih => simp only [allS, allF, Bool.and_eq_true] at hp; rw [ih hp.2]; cases f <;> first | rfl | (simp [noOwn] at hp)
          | @dt f _ _ _ _ _ _ _ _ ih => simp only [allS, allF, Bool.and_eq_true] at hp; rw [ih hp.2]; cases f <;> first | rfl | (simp [noOwn] at hp)
          | @ins f _ _ _ _ _ _ _ _ _ _ _ ih => simp only [allS, allF, Bool.and_eq_true] at hp; rw [ih hp.2]; cases f <;> first | rfl | (simp [noOwn] at hp)
          | cons _ _ i1 i2 => simp only [allS, allFL, Bool.and_eq_true] at hp; rw [i1 hp.1, i2 hp.2]; rfl
          | kcons _ _ i1 i2 => simp only [allS, allFK, Bool.and_eq_true] at hp; rw [i1 hp.1, i2 hp.2]; rfl
          | tcons _ _ i1 i2 => simp only [allS, allFT, Bool.and_eq_true] at hp; rw [i1 hp.1, i2 hp.2]; rfl
          | scons _ _ i1 i2 => simp only [allS, allFS, Bool.and_eq_true] at hp; rw [i1 hp.1, i2 hp.2]; rfl
          | _ => rfl
        rw [key h2 (allFL_get hn hd)] at hb
        cases hb
      cases A0 with
      | nil => rfl
      | cons b r => exact (this b List.mem_cons_self).elim
    subst hA
    exact ⟨S, G, A, B1 ++ (B3 ++ B4), g.less g.env (.cons (A := []) h2 g.stk) g.wk ⟨[], .refl _⟩ g.pin⟩
def frzL (io : Bool) (d : D) : M (List D) := match d with
  | .lst f ds => if allF noLk (.lst f ds) ∧ allFL noOwn (mapFL (shF io) ds) then .ret (mapFL (shF io) ds) else .bad
  | _ => .bad
theorem pi_lstM {tg : Expr} {io : Bool} (hio : io = false → p.O = []) (ha : PE X a (tV X p W f)) : PI X tg a (tI X p W (f.bind (frzL io))) :=
  PImono (pi_list ha) fun σ H R q => tR_mono (tR_bind q) fun lk L e st ws d q v H1 g1 => by
    cases d with
    | lst fl ds =>
      unfold frzL at q
      dsimp only at q
      by_cases hz : allF noLk (.lst fl ds) = true ∧ allFL noOwn (mapFL (shF io) ds) = true
      · rw [if_pos hz] at q
        have g2 : Gd X p lk L σ H1 e ((v, .lst (shF io fl) (mapFL (shF io) ds)) :: st) ws := g1.freeze hz.1 hio
        obtain ⟨a, xs, rfl, rd, hl, _⟩ := Gd.item (front := []) g2 hz.2
        refine ⟨a, rfl, ⟨xs, .inl rd⟩, q (Itl X.K a) H1 [(.ref a, .lst (shF io fl) (mapFL (shF io) ds))] g2 fun L' _ i σ' H' e' front ws' g' => ?_⟩
        obtain ⟨a', xs', e1, rd', hl', k⟩ := Gd.item (st' := st) g' hz.2
        cases e1
        refine ⟨fun d hd => ?_, fun hn => ⟨xs', .inl rd', by rw [hl']; exact List.getElem?_eq_none_iff.mp hn⟩⟩
        have hi : i < xs'.length := by rw [hl']; exact (List.getElem?_eq_some_iff.mp hd).1
        refine ⟨⟨xs', xs'[i], .inl rd', List.getElem?_eq_getElem hi⟩, fun x H'' ⟨hy1, hy2⟩ => ?_⟩
        subst hy1
        exact k i x d (hy2 xs' (.inl rd')) hd
      · rw [if_neg hz] at q; exact False.elim q
    | _ => exact False.elim q
def loopM (tg : D → Env → Option Env) (body : M Fw) : List D → M Fw
  | [] => .ret .next
  | d :: r => (liftT tg d).bind fun _ => body.bind fun fl => match fl with
    | .next => loopM tg body r
    | .cont => loopM tg body r
    | .brk => .ret .next
    | .ret d => .ret (.ret d)
theorem ps_forM {tg iter : Expr} {body : List Stmt} {fi : M (List D)} {ft : D → Env → Option Env} {fb : M Fw} (hp : PassesOwn (model X.prog X.w) X.A X.env X.xe) (hc : X.calm = true) (hi : PI X tg iter (tI X p W fi)) (hg : PG X tg (tG0 X p ft)) (hb : PSs X body (tS X p W fb))
    (hs : ∀ x, foldedSetIterable iter X.env x = pure x) : PS X (.For tg iter body [] pos) (tS X p W (fi.bind (loopM ft fb))) :=
  PSmono (ps_for hp hc hi hg hb hs) fun D σ H ⟨lk, L, e, st, gd, q⟩ => by
    refine ⟨lk, L, e, st, [], gd, Res.run_mono (run_bind q) (fun ds e1 q J H1 st' g1 hJ => ?_) XS.xw⟩
    refine ⟨fun i m σ H => m = ds.length - i ∧ i ≤ ds.length ∧ ∃ e, Gd X p lk L σ H e (st' ++ st) [] ∧ (loopM ft fb (ds.drop i) e).run (FwK X p lk L st D) (XS X p W lk L st), ⟨ds.length, by simp, Nat.zero_le _, e1, g1, q⟩, ?_⟩
    rintro i m σ H ⟨rfl, hi, e, g, q⟩
    obtain ⟨k1, k2⟩ := hJ L rfl i σ H e [] [] g
    by_cases hlt : i < ds.length
    · obtain ⟨go, yl⟩ := k1 ds[i] (List.getElem?_eq_getElem hlt)
      refine .inr ⟨go, fun σ' H' => ∃ e, Gd X p lk L σ' H' e (st' ++ st) [] ∧ (loopM ft fb (ds.drop (i + 1)) e).run (FwK X p lk L st D) (XS X p W lk L st), fun σ' H' ⟨e', g', q'⟩ => ⟨ds.length - (i + 1), by omega, rfl, hlt, e', g', q'⟩, fun x H' y => ?_⟩
      have g2 := yl x H' y
      rw [List.drop_eq_getElem_cons hlt] at q
      obtain ⟨e2, he, q⟩ := run_lift (run_bind q)
      refine ⟨lk, L, e, st' ++ st, ds[i], e2, g2, he, fun σ2 H2 g3 => ?_⟩
      refine ⟨lk, L, e2, st' ++ st, g3, Res.run_mono (run_bind q) (fun fl e3 q => ?_) fun c fs e' z σ' cls d H' x => z σ' cls d H' ?_⟩
      · cases fl with
        | next => exact fun σ' H' g' => ⟨e3, g', q⟩
        | cont => exact fun σ' H' g' => ⟨e3, g', q⟩
        | brk => exact fun σ' H' g' => q σ' H' g'.dropN
        | ret d => exact fun v σ' H' g' => q v σ' H' (Gd.dropN (st' := st') (g'.perm (by exact List.perm_middle.symm)))
      · obtain ⟨z1, z2⟩ := x
        exact ⟨z1, z2.elim (fun z => .inl ⟨z.1, z.2.dropN⟩) fun ⟨dd, fv, y1, y2, y3, y4⟩ => .inr ⟨dd, fv, y1, y2, y3, Gd.dropN (st' := st') (y4.perm (by rw [← List.append_assoc, ← List.append_assoc]; exact List.Perm.append_right _ List.perm_append_comm))⟩⟩
    · have e0 : i = ds.length := by omega
      subst e0
      rw [List.drop_length] at q
      exact .inl ⟨k2 (List.getElem?_eq_none_iff.mpr (Nat.le_refl _)), q σ H g.dropN⟩
end
end DG

set_option Elab.async false
set_option linter.all false
set_option maxHeartbeats 4000000
/-! DGl: ranges, comprehensions. -/
namespace DG
open PySem PySem.Spec PyProof.Rows L2
set_option autoImplicit false
section
variable {X : Cx} {p : Par} {W : WX} {lk : List Addr} {L : Lk} {σ : L2.St} {H : Hp} {e : Env} {st : Stk} {ws : List Wk} {a b c : Expr} {pos : Pos} {f g h : M D}
/-! ### ranges -/
def rng (lo : Int) (n : Nat) : List D := (List.range n).map fun (i : Nat) => .int (lo + i)
theorem rng_get (lo : Int) (n i : Nat) : (rng lo n)[i]? = if i < n then some (.int (lo + i)) else none := by
  unfold rng
  rw [List.getElem?_map]
  by_cases h : i < n
  · rw [if_pos h, List.getElem?_range h]; rfl
  · rw [if_neg h, List.getElem?_eq_none (by simpa using h)]; rfl
theorem itD_rng {lo : Int} {n : Nat} : ItD X p lk L (Itr lo n) (rng lo n) st := fun L' _ i σ H e front ws g => by
  rw [rng_get]
  by_cases h : i < n
  · rw [if_pos h]
    refine ⟨fun d hd => ?_, fun z => (by cases z)⟩
    cases hd
    refine ⟨h, fun x H' y => ?_⟩
    obtain ⟨y1, y2⟩ : H' = H ∧ x = .int (lo + i) := y
    subst y1 y2
    exact g.push fun z G _ _ => .int _
  · rw [if_neg h]
    exact ⟨fun d z => (by cases z), fun _ => Nat.le_of_not_lt h⟩
def rngOk (j : Int) : Prop := -(2 ^ 62) ≤ j ∧ j < 2 ^ 62
instance (j : Int) : Decidable (rngOk j) := by unfold rngOk; infer_instance
def rng1 : D → M (List D)
  | .int j => if rngOk j then .ret (rng 0 j.toNat) else .bad
  | _ => .bad
def rng2 : D → D → M (List D)
  | .int i, .int j => if rngOk i ∧ rngOk j then .ret (rng i (j - i).toNat) else .bad
  | _, _ => .bad
theorem pi_rng1 {tg : Expr} {p1 : Pos} (hg : Gl X "range") (hm : X.mg "range" = none) (ha : PE X a (tW X p W f)) (hs : starEach [a] X.env = [(false, eval a X.env)]) :
    PI X tg (.Call (.Name "range" p1) [a] [] pos) (tI X p W (f.bind rng1)) :=
  PImono (pi_range1 hg hm (pa_cons ha pa_nil hs) hs) fun σ H R q => tR_mono (tR_bind q) fun lk L e st ws d q v H1 g1 => by
    cases d with
    | int j =>
      unfold rng1 at q
      dsimp only at q
      by_cases hz : rngOk j
      · rw [if_pos hz] at q
        exact ⟨j, by rw [Wr_int (g1.wr List.mem_cons_self)], hz.1, hz.2, q _ H1 [] g1.dropW itD_rng⟩
      · rw [if_neg hz] at q; exact False.elim q
    | _ => exact False.elim q
theorem pi_rng2 {tg : Expr} {p1 : Pos} (hg : Gl X "range") (hm : X.mg "range" = none) (ha : PE X a (tW X p W f)) (hb : PE X b (tW X p W g)) (hs : starEach [a, b] X.env = [(false, eval a X.env), (false, eval b X.env)]) (hs2 : starEach [b] X.env = [(false, eval b X.env)]) :
    PI X tg (.Call (.Name "range" p1) [a, b] [] pos) (tI X p W (f.bind fun x => g.bind fun y => rng2 x y)) :=
  PImono (pi_range2 hg hm (pa_cons ha (pa_cons hb pa_nil hs2) (by rw [hs, hs2])) hs hs2) fun σ H R q => by
    refine two_of (R := fun x y H2 => ∃ i j : Int, [x, y] = [.int i, .int j] ∧ (-(2 ^ 62) ≤ i ∧ i < 2 ^ 62 ∧ -(2 ^ 62) ≤ j ∧ j < 2 ^ 62) ∧ R (Itr i (j - i).toNat) H2) q (fun _ q => q) (fun _ _ q => q) fun lk L e st ws x y dx dy H g q => ?_
    cases dx with
    | int i =>
      cases dy with
      | int j =>
        unfold rng2 at q
        dsimp only at q
        by_cases hz : rngOk i ∧ rngOk j
        · rw [if_pos hz] at q
          exact ⟨i, j, by rw [Wr_int (g.wr List.mem_cons_self), Wr_int (g.wr (List.mem_cons_of_mem _ List.mem_cons_self))], ⟨hz.1.1, hz.1.2, hz.2.1, hz.2.2⟩, q _ H [] g.dropW.dropW itD_rng⟩
        · rw [if_neg hz] at q; exact False.elim q
      | _ => exact False.elim q
    | _ => exact False.elim q
/-! ### comprehensions -/
/-- the names of a comprehension are forgotten -/
def killAll (vs : List Nat) (e : Env) : Env := vs.foldr (fun i e => e.set i none) e
theorem Gd.slots {σ' : L2.St} (g : Gd X p lk L σ H e st ws) (hl : σ'.length = σ.length) (h : ∀ i, (∃ d, e[i]? = some (some d)) ∨ i < p.nl → σ'[i]? = σ[i]?) (h0 : 0 < p.nl) : Gd X p lk L σ' H e st ws := by
  obtain ⟨S, G, A, B, g⟩ := g
  have env : ∀ {σ σ' : List (Option V)} {e : Env} {A : List Addr}, RpE (zo X p S lk) G σ e A → σ'.length = σ.length → (∀ (i : Nat), (∃ d, e[i]? = some (some d)) → σ'[i]? = σ[i]?) → RpE (zo X p S lk) G σ' e A := by
    intro σ σ' e A h
    induction h generalizing σ' with
    | nil => intro hl _; rw [List.eq_nil_of_length_eq_zero hl]; exact .nil
    | @skip x σ e A r ih =>
      intro hl k
      cases σ' with
      | nil => simp at hl
      | cons y σ' => exact .skip (ih (by simpa using hl) fun i hi => by simpa using k (i + 1) (by simpa using hi))
    | @cons v d σ e A B r rr ih =>
      intro hl k
      cases σ' with
      | nil => simp at hl
      | cons y σ' =>
        have e0 : some y = some (some v) := by simpa using k 0 ⟨d, rfl⟩
        cases e0
        exact .cons r (ih (by simpa using hl) fun i hi => by simpa using k (i + 1) (by simpa using hi))
  exact ⟨S, G, A, B, g.less (env g.env hl fun i hi => h i (.inl hi)) g.stk (fun w hw => (g.wk w hw).slots fun i hi => h i (.inr hi)) ⟨[], .refl _⟩ fun v hv => by rw [h 0 (.inr h0)]; exact g.pin v hv⟩
/-- a thing is hidden, changed while hidden, shown again -/
theorem Gd.hide (g : Gd X p lk L σ H e st ws) {D : Addr} {o : HO} (hD : H D = none) (hm : Mut (some o)) : Gd X p lk ⟨L.lo, (D, o) :: L.hd⟩ σ (upd H D o) e st ws ∧ L.hd.lookup D = none := by
  obtain ⟨S, G, A, B, g⟩ := g
  obtain ⟨f1, ⟨f2, f2'⟩, _⟩ := g.free hD
  refine ⟨⟨S, G, A, B, ⟨g.ok, by rw [g.hL, lockAll_hide], ⟨g.lkd.lo, fun b u q => ?_⟩, g.lkz, g.lke, g.env, g.stk, g.wk, g.nd, g.dj, g.ow, g.s0, g.sd, g.fr, g.oo, g.pin, g.nf⟩⟩, f2'⟩
  have q : ((D, o) :: L.hd).lookup b = some u := q
  rw [List.lookup_cons] at q
  by_cases z : b = D
  · subst z
    rw [show (b == b) = true from beq_self_eq_true b] at q
    cases q
    exact ⟨f1, hm⟩
  · rw [beq_false_of_ne z] at q
    exact g.lkd.hd b u q
theorem Gd.rehide {D : Addr} {o o' : HO} {lo : List (Addr × Obj)} {hd : List (Addr × HO)} (g : Gd X p lk ⟨lo, (D, o) :: hd⟩ σ H e st ws) (hm : Mut (some o')) : Gd X p lk ⟨lo, (D, o') :: hd⟩ σ (upd H D o') e st ws := by
  obtain ⟨S, G, A, B, g⟩ := g
  refine ⟨S, G, A, B, ⟨g.ok, ?_, ⟨g.lkd.lo, fun b u q => ?_⟩, g.lkz, g.lke, g.env, g.stk, g.wk, g.nd, g.dj, g.ow, g.s0, g.sd, g.fr, g.oo, g.pin, g.nf⟩⟩
  · rw [g.hL, lockAll_hide (L := ⟨lo, hd⟩), upd_upd, ← lockAll_hide]
  · have q : ((D, o') :: hd).lookup b = some u := q
    rw [List.lookup_cons] at q
    by_cases z : b = D
    · subst z
      rw [show (b == b) = true from beq_self_eq_true b] at q
      cases q
      exact ⟨(g.lkd.hd b o (by simp)).1, hm⟩
    · rw [beq_false_of_ne z] at q
      exact g.lkd.hd b u (by show ((D, o) :: hd).lookup b = some u; rw [List.lookup_cons, beq_false_of_ne z]; exact q)
theorem Gd.hid {D : Addr} {o : HO} {lo : List (Addr × Obj)} {hd : List (Addr × HO)} (g : Gd X p lk ⟨lo, (D, o) :: hd⟩ σ H e st ws) : H D = some o := by
  obtain ⟨S, G, A, B, g⟩ := g
  rw [g.hL]
  exact lockAll_hd (by simp)
theorem Gd.unhide {front st0 : Stk} {D : Addr} {o : HO} (g : Gd X p lk ⟨L.lo, (D, o) :: L.hd⟩ σ H e (front ++ st0) ws) (hD : L.hd.lookup D = none) (d : DG.D) (own : Bool)
    (mk : ∀ (z : Zo) (G : Hp) (B : List Addr), z.K = X.K → z.gm = X.mg → D ∉ z.lk → G D = some o → RpS z G front B → Rp z G (.v (.ref D) d) ((if own then [D] else []) ++ B)) : Gd X p lk L σ H e ((.ref D, d) :: st0) ws := by
  obtain ⟨S, G, A, B, g⟩ := g
  have hG : G D = none := (g.lkd.hd D o (by simp)).1
  have hlo : L.lo.lookup D = none := by
    cases q : L.lo.lookup D with
    | none => rfl
    | some od => obtain ⟨u, hu, _⟩ := g.lkd.lo D od q; rw [hG] at hu; cases hu
  have g0 : Gd X p lk L σ (lockAll L G) e (front ++ st0) ws := by
    refine ⟨S, G, A, B, ⟨g.ok, rfl, ⟨g.lkd.lo, fun b u q => g.lkd.hd b u ?_⟩, g.lkz, g.lke, g.env, g.stk, g.wk, g.nd, g.dj, g.ow, g.s0, g.sd, g.fr, g.oo, g.pin, g.nf⟩⟩
    have z : b ≠ D := by rintro rfl; rw [hD] at q; cases q
    show ((D, o) :: L.hd).lookup b = some u
    rw [List.lookup_cons, beq_false_of_ne z]; exact q
  have h0 : lockAll L G D = none := by rw [lockAll_eq hD, hG, hlo]; rfl
  have := Gd.alloc g0 h0 o d own (fun z G B kK kg hz hg _ r => mk z G B kK kg hz hg r) fun x u z => by
    have m := (g.lkd.hd D o (by simp)).2
    rw [z] at m; exact m.elim
  rw [← lockAll_hide, ← g.hL] at this
  exact this
theorem wipe_get (σ : L2.St) (i : Nat) : ∀ vs : List Nat, (wipe σ vs)[i]? = if i ∈ vs ∧ i < σ.length then some none else σ[i]?
  | [] => by simp [wipe]
  | v :: vs => by
    unfold wipe
    by_cases hv : v = i
    · subst hv
      by_cases hl : v < σ.length
      · rw [List.getElem?_set_self (by rw [wipe_length]; exact hl), if_pos ⟨List.mem_cons_self, hl⟩]
      · rw [List.getElem?_eq_none (by rw [List.length_set, wipe_length]; omega), if_neg (fun z => hl z.2), List.getElem?_eq_none (by omega)]
    · rw [List.getElem?_set_ne hv, wipe_get σ i vs]
      by_cases hm : i ∈ vs ∧ i < σ.length
      · rw [if_pos hm, if_pos ⟨List.mem_cons_of_mem _ hm.1, hm.2⟩]
      · rw [if_neg hm, if_neg fun z => hm ⟨(List.mem_cons.mp z.1).resolve_left (fun q => hv q.symm), z.2⟩]
theorem wipe_eq {σ σ' : L2.St} {vs : List Nat} (hl : σ'.length = σ.length) (h : ∀ i, i ∉ vs → σ'[i]? = σ[i]?) : wipe σ' vs = wipe σ vs := by
  apply List.ext_getElem?
  intro i
  rw [wipe_get, wipe_get, hl]
  by_cases hm : i ∈ vs ∧ i < σ.length
  · rw [if_pos hm, if_pos hm]
  · rw [if_neg hm, if_neg hm]
    by_cases hv : i ∈ vs
    · have : σ.length ≤ i := by
        by_cases hq : i < σ.length
        · exact absurd ⟨hv, hq⟩ hm
        · omega
      rw [List.getElem?_eq_none (by omega), List.getElem?_eq_none (by omega)]
    · exact h i hv
theorem killAll_get (vs : List Nat) (e : Env) (i : Nat) : (∃ d, (killAll vs e)[i]? = some (some d)) → i ∉ vs ∧ (killAll vs e)[i]? = e[i]? := by
  induction vs with
  | nil => exact fun _ => ⟨by simp, rfl⟩
  | cons v vs ih =>
    rintro ⟨d, hd⟩
    have hd : ((killAll vs e).set v none)[i]? = some (some d) := hd
    by_cases hv : v = i
    · subst hv
      by_cases hl : v < (killAll vs e).length
      · rw [List.getElem?_set_self hl] at hd; cases hd
      · rw [List.getElem?_eq_none (by rw [List.length_set]; omega)] at hd; cases hd
    · rw [List.getElem?_set_ne hv] at hd
      obtain ⟨h1, h2⟩ := ih ⟨d, hd⟩
      refine ⟨by simp only [List.mem_cons, not_or]; exact ⟨fun z => hv z.symm, h1⟩, ?_⟩
      show ((killAll vs e).set v none)[i]? = e[i]?
      rw [List.getElem?_set_ne hv]; exact h2
theorem Gd.killAll : ∀ (vs : List Nat) {e : Env}, Gd X p lk L σ H e st ws → Gd X p lk L σ H (killAll vs e) st ws
  | [], _, g => g
  | v :: vs, _, g => (Gd.killAll vs g).kill v
/-- a target among the names own -/
def tGo (X : Kx) (p : Par) (own : List Nat) (f : DG.D → Env → Option Env) : TG := fun v σ H Q => ∃ lk L e st ws d e', Gd X p lk L σ H e ((v, d) :: st) ws ∧ f d e = some e' ∧ ∀ σ' H', σ'.length = σ.length → (∀ i, i ∉ own → σ'[i]? = σ[i]?) → Gd X p lk L σ' H' e' st ws → Q σ' H'
theorem pg_nameO {i : Nat} {x : Str} {io : Bool} {pos' : Pos} {own : List Nat} (hio : io = false → p.io = none) (hN : X.N.Nodup) (hi : X.N[i]? = some x) (hx : Loc X.env.scope x) (hf : X.fn x = true ∨ X.env.scope.names.lookup x = some .local) (hn : p.nl ≤ i) (ho : i ∈ own) :
    PG X (.Name x pos') (tGo X p own (putE io i)) :=
  PGmono (pg_name hN hi hx hf) fun v σ H Q ⟨lk, L, e, st, ws, d, e', g, he, q⟩ => by
    obtain ⟨h1, h2, rfl⟩ := putE_of he
    exact q _ _ (List.length_set ..) (fun j hj => List.getElem?_set_ne fun z => hj (by subst z; exact ho)) (g.store h1 (h2.elim (fun z => .inl (hio z)) .inr) (.inr hn))
def noexc {α : Type} (f : M α) : M α := fun e => match f e with
  | .exc _ _ _ => .bad
  | r => r
theorem run_noexc {α : Type} {f : M α} {e : Env} {ok : α → Env → Prop} {ex ex' : Str → List (Str × D) → Env → Prop} (h : (noexc f e).run ok ex) : (f e).run ok ex' := by
  unfold noexc at h
  cases q : f e with
  | ok a e' => rw [q] at h; exact h
  | exc => rw [q] at h; exact False.elim h
  | bad => rw [q] at h; exact h
def W0 : WX := fun _ _ _ _ => False
def lcLoop (own : List Nat) (ft : D → Env → Option Env) (ftest : M Bool) (fe : M D) : List D → List D → M D
  | [], acc => .ret (.lst .own acc)
  | d :: r, acc => (liftT ft d).bind fun _ => (noexc ftest).bind fun b =>
    (if b then (noexc fe).bind fun x => if acc.length < sizeLine then .ret (acc ++ [x]) else .bad else .ret acc).bind fun acc' => fun e => lcLoop own ft ftest fe r acc' (killAll own e)
def lcM (own : List Nat) (fi : M (List D)) (ft : D → Env → Option Env) (ftest : M Bool) (fe : M D) : M D := fi.bind fun ds => fun e => if own.all (fun i => match e[i]? with | some none => true | _ => false) then lcLoop own ft ftest fe ds [] e else .bad
def tTs (X : Kx) (p : Par) (W : WX) (f : M Bool) : TT := tT X p W f
theorem lc_imp {vs : List Nat} {fi : M (List D)} {ft : D → Env → Option Env} {ftest : M Bool} {fe : M D} {Q : VK} (h0 : 0 < p.nl) (hn : ∀ i ∈ vs, p.nl ≤ i) (q : tV X p W (lcM vs fi ft ftest fe) σ H Q) :
    tLc (tI X p W fi) (tGo X p vs ft) (tT X p W0 ftest) (tV X p W0 fe) vs σ H Q :=
  tR_mono (tR_bind q) fun lk L e1 st ws ds q J H1 st' g1 hJ D hD => by
    by_cases hz : (vs.all fun i => match e1[i]? with | some none => true | _ => false) = true
    case neg => rw [if_neg hz] at q; exact False.elim q
    rw [if_pos hz] at q
    have dead : ∀ i, i ∈ vs → ¬ ∃ d, e1[i]? = some (some d) := fun i hi ⟨d, hd⟩ => by
      have := List.all_eq_true.mp hz i hi
      rw [hd] at this; cases this
    have g0 : Gd X p lk L (wipe σ vs) H1 e1 (st' ++ st) ws := g1.slots (wipe_length σ vs) (fun i hi => by
      rw [wipe_get]
      refine if_neg fun z => ?_
      rcases hi with hi | hi
      · exact dead i z.1 hi
      · exact absurd (hn i z.1) (by omega)) h0
    obtain ⟨g2, hh⟩ := g0.hide (o := .lst []) hD trivial
    -- from a state of the block to a state between two turns
    have back : ∀ {L' : Lk} {σ2 : L2.St} {H2 : Hp} {e2 : Env} {st2 : Stk}, σ2.length = σ.length → (∀ i, i ∉ vs → σ2[i]? = σ[i]?) → Gd X p lk L' σ2 H2 e2 st2 ws → Gd X p lk L' (wipe σ vs) H2 (killAll vs e2) st2 ws := fun {L' σ2 H2 e2 st2} hl ho g => by
      refine (Gd.killAll vs g).slots (by rw [wipe_length, hl]) (fun i hi => ?_) h0
      have ni : i ∉ vs := by
        rcases hi with hi | hi
        · exact (killAll_get vs e2 i hi).1
        · exact fun z => absurd (hn i z) (by omega)
      rw [wipe_get, if_neg fun z => ni z.1, ho i ni]
    have deadK : ∀ (e2 : Env) (i : Nat), i ∈ vs → ¬ ∃ d, (killAll vs e2)[i]? = some (some d) := fun e2 i hi hd => (killAll_get vs e2 i hd).1 hi
    refine ⟨fun i m H => m = ds.length - i ∧ i ≤ ds.length ∧ ∃ (e : Env) (xs : List V) (as : List DG.D), xs.length = as.length ∧ Gd X p lk ⟨L.lo, (D, .lst xs) :: L.hd⟩ (wipe σ vs) H e (xs.zip as ++ (st' ++ st)) ws ∧ (∀ i, i ∈ vs → ¬ ∃ d, e[i]? = some (some d)) ∧
      (lcLoop vs ft ftest fe (ds.drop i) as e).run (fun d e' => ∀ v H', Gd X p lk L σ H' e' ((v, d) :: st) ws → Q v H') (XW X p W lk L σ st), ⟨ds.length, by simp, Nat.zero_le _, e1, [], [], rfl, g2, dead, q⟩, ?_⟩
    rintro i m H ⟨rfl, hi, e, xs, as, hl, g, dd, q⟩
    obtain ⟨k1, k2⟩ := hJ ⟨L.lo, (D, .lst xs) :: L.hd⟩ rfl i (wipe σ vs) H e (xs.zip as) ws g
    by_cases hlt : i < ds.length
    · obtain ⟨go, yl⟩ := k1 ds[i] (List.getElem?_eq_getElem hlt)
      refine .inr ⟨go, fun H' => ∃ (e : Env) (xs : List V) (as : List DG.D), xs.length = as.length ∧ Gd X p lk ⟨L.lo, (D, .lst xs) :: L.hd⟩ (wipe σ vs) H' e (xs.zip as ++ (st' ++ st)) ws ∧ (∀ i, i ∈ vs → ¬ ∃ d, e[i]? = some (some d)) ∧
        (lcLoop vs ft ftest fe (ds.drop (i + 1)) as e).run (fun d e' => ∀ v H', Gd X p lk L σ H' e' ((v, d) :: st) ws → Q v H') (XW X p W lk L σ st), fun H' ⟨e', xs', as', a1, a2, a3, a4⟩ => ⟨ds.length - (i + 1), by omega, rfl, hlt, e', xs', as', a1, a2, a3, a4⟩, fun x H' y => ?_⟩
      have g3 := yl x H' y
      rw [List.drop_eq_getElem_cons hlt] at q
      obtain ⟨e2, hft, q⟩ := run_lift (run_bind q)
      refine ⟨lk, _, e, xs.zip as ++ (st' ++ st), ws, ds[i], e2, g3, hft, fun σ2 H2 hsl hso g4 => ?_⟩
      have hsl' : σ2.length = σ.length := by rw [hsl, wipe_length]
      have hso' : ∀ j, j ∉ vs → σ2[j]? = σ[j]? := fun j hj => by rw [hso j hj, wipe_get, if_neg fun z => hj z.1]
      refine ⟨wipe_eq hsl' hso', lk, _, e2, xs.zip as ++ (st' ++ st), ws, g4, ?_⟩
      refine Res.run_mono (run_noexc (ex' := fun _ _ _ => False) (run_bind q)) (fun b e3 q H3 g5 => ?_) fun _ _ _ z => z.elim
      cases b with
      | false =>
        rw [if_neg Bool.false_ne_true]
        exact ⟨killAll vs e3, xs, as, hl, back hsl' hso' g5, deadK e3, q⟩
      | true =>
        rw [if_pos rfl]
        refine ⟨lk, _, e3, xs.zip as ++ (st' ++ st), ws, g5, ?_⟩
        refine Res.run_mono (run_noexc (ex' := fun _ _ _ => False) (run_bind (run_bind q))) (fun y e4 q v H4 g6 => ?_) fun _ _ _ z => z.elim
        refine ⟨xs, g6.hid, ?_⟩
        by_cases hsz : as.length < sizeLine
        · rw [if_pos hsz] at q
          refine ⟨by rw [hl]; exact hsz, killAll vs e4, xs ++ [v], as ++ [y], by simp [hl], back hsl' hso' ((g6.rehide (o' := .lst (xs ++ [v])) trivial).perm ?_), deadK e4, q⟩
          rw [List.zip_append hl, List.append_assoc]
          exact List.perm_middle.symm
        · rw [if_neg hsz] at q; exact False.elim q
    · have e0 : i = ds.length := by omega
      subst e0
      rw [List.drop_length] at q
      refine .inl ⟨k2 (List.getElem?_eq_none_iff.mpr (Nat.le_refl _)), q _ H ?_⟩
      have g6 : Gd X p lk L (wipe σ vs) H e ((.ref D, .lst .own as) :: (st' ++ st)) ws := Gd.unhide g hh (.lst .own as) true fun z G B kK kg hz hG rS => by
        have := rS.toL
        rw [zip_fst hl, zip_snd hl] at this
        exact .lst (f := .own) hG hz this
      have g7 : Gd X p lk L σ H e ((.ref D, .lst .own as) :: (st' ++ st)) ws := g6.slots (wipe_length σ vs).symm (fun i hi => by
        rw [wipe_get, if_neg fun z => ?_]
        rcases hi with hi | hi
        · exact dd i z.1 hi
        · exact absurd (hn i z.1) (by omega)) h0
      exact Gd.dropN (st' := st') (g7.perm List.perm_middle.symm)
theorem pe_lcM {elt tg iter : Expr} {ifs : List Expr} {scope : Scope} {own : List (Str × Nat)} {fi : M (List D)} {ft : D → Env → Option Env} {ftest : M Bool} {fe : M D} (hc : X.calm = true) (hN : X.N.Nodup) (h0 : 0 < p.nl) (hn : ∀ i ∈ own.map (·.2), p.nl ≤ i)
    (hi : PI X tg iter (tI X p W fi)) (ok : BlkOk X.N X.env.scope scope own)
    (hg : ∀ (s : Shared) (H : Hp) (C : Addr) (cl : List (Str × Addr)) (fp : List Addr), PG (X.blk s H scope (compEnvC scope cl C X.env) fp) tg (tGo X p (own.map (·.2)) ft))
    (ht : ∀ (s : Shared) (H : Hp) (C : Addr) (cl : List (Str × Addr)) (fp : List Addr), PTs (X.blk s H scope (compEnvC scope cl C X.env) fp) ifs (tT X p W0 ftest))
    (he : ∀ (s : Shared) (H : Hp) (C : Addr) (cl : List (Str × Addr)) (fp : List Addr), PE (X.blk s H scope (compEnvC scope cl C X.env) fp) elt (tV X p W0 fe)) (hs : ∀ x, foldedSetIterable iter X.env x = pure x) :
    PE X (.ListComp elt [⟨tg, iter, ifs, 0⟩] scope pos) (tV X p W (lcM (own.map (·.2)) fi ft ftest fe)) :=
  PEmono (pe_lc hc hN hi ok hg ht he hs) fun σ H Q q => lc_imp h0 hn q
end
end DG

set_option Elab.async false
set_option linter.all false
set_option maxHeartbeats 4000000
/-! DGm: defs: what a def promises, its call, its body. -/
namespace DG
open PySem PySem.Spec PyProof.Rows L2
set_option autoImplicit false
inductive FRes where
  | ok (d : D) | exc (c : Str) (fs : List (Str × D)) | bad
def noRo : Fl → Bool | .ro => false | .lk _ => false | _ => true
/-- what a def hands out: a list frozen in it, of things that own nothing, is the asker's own -/
def outD (d : D) : Option D := match d with
  | .lst .fr ds => if immL ds then some (.lst .own ds) else if allFL noRo ds then some d else none
  | d => if allF noRo d then some d else none
def outS : List (Str × D) → Option (List (Str × D))
  | [] => some []
  | (k, d) :: r => match outD d, outS r with
    | some d', some r' => some ((k, d') :: r')
    | _, _ => none
def fnRes : Res Fw → FRes
  | .ok (.ret d) _ => match outD d with
    | some d' => .ok d'
    | none => .bad
  | .ok .next _ => .ok .non
  | .ok _ _ => .bad
  | .exc c fs _ => if allFS noRo fs then .exc c fs else .bad
  | .bad => .bad
def fnRun (n : Nat) (body : M Fw) (ds : List D) : FRes := if ds.length ≤ n then fnRes (body (ds.map some ++ List.replicate (n - ds.length) none)) else .bad
/-- what came out of a call -/
structure OutV (K : PySem.W.Frag) (mg : Str → Option Value) (H : Hp) (S : Addr → Prop) (S' : Addr → Prop) (H' : Hp) (B : List Addr) : Prop where
  keep : ∀ a o, H a = some o → H' a = some o
  s0 : ∀ a, S a → S' a
  s1 : ∀ a, S' a → (S a ∨ H a = none) ∧ ∃ o, H' a = some o
  nd : B.Nodup
  nw : ∀ a ∈ B, H a = none ∧ ¬ S' a
  nf : ∀ a, H a = none → ∀ x u, H' a ≠ some (.frz x u)
def zo0 (K : PySem.W.Frag) (mg : Str → Option Value) (S R : Addr → Prop) (H : Hp) : Zo := ⟨K, mg, S, R, H, []⟩
def domP (H : Hp) : Addr → Prop := fun a => ∃ o, H a = some o
/-- a def of n parameters that does f -/
def spF (K : PySem.W.Frag) (mg : Str → Option Value) (n : Nat) (f : List D → FRes) : Sp := fun vs H Q E => ∃ (ds : List D) (S : Addr → Prop), vs.length = ds.length ∧ ds.length = n ∧ (∀ a, S a → domP H a) ∧ (∀ a x xs, H a ≠ some (.frz x (.tup xs))) ∧ (∀ w ∈ vs.zip ds, Rp (zo0 K mg S (domP H) H) H (.v w.1 w.2) []) ∧
  match f ds with
  | .ok d => allF noRo d = true → ∀ v H' S' B, OutV K mg H S S' H' B → Rp (zo0 K mg S' (fun _ => False) H) H' (.v v d) B → Q v H'
  | .exc c fs => allFS noRo fs = true → ∀ cls dd H' S' B, mg c = some cls → OutV K mg H S S' H' B → ((fs = [] ∧ B = []) ∨ ∃ d fv, dd = some d ∧ H' d = some (.xd fv) ∧ Rp (zo0 K mg S' (fun _ => False) H) H' (.s fv fs) B) → E cls dd H'
  | .bad => False
/-- without what is lent, the zone of the lent things does not matter -/
theorem Rp.noR {z z' : Zo} {H : Hp} {g : Sg} {A : List Addr} (h : Rp z H g A) (hp : allS noRo g = true) (kK : z'.K = z.K) (kg : z'.gm = z.gm) (kS : ∀ a, z.S a → z'.S a) (k0 : ∀ a, z.S a → z.H0 a = none → z'.H0 a = none) (kl : ∀ a ∈ A, a ∉ z'.lk) : Rp z' H g A := by
  have fo : ∀ {f : Fl} {a : Addr} {B : List Addr}, FlOk z a f → noRo f = true → (∀ b ∈ FlA f a ++ B, b ∉ z'.lk) → FlOk z' a f := fun {f a B} o n k => by
    cases f with
    | own => exact k a (by simp [FlA])
    | fr => exact ⟨kS _ o.1, k0 _ o.1 o.2⟩
    | sh => exact kS _ o
    | ro => simp [noRo] at n
    | lk n => simp [noRo] at *
  induction h with
  | non => exact .non
  | bl b => exact .bl b
  | int i => exact .int i
  | str x => exact .str x
  | ty n => exact .ty n
  | fn e => exact .fn (by rw [kg]; exact e)
  | tup t _ ih => exact .tup (by rw [kK]; exact t) (ih hp kl)
  | lst a o _ ih =>
    simp only [allS, allF, Bool.and_eq_true] at hp
    exact .lst a (fo o hp.1 kl) (ih hp.2 fun b hb => kl b (List.mem_append_right _ hb))
  | dk a o n _ ih =>
    simp only [allS, allF, Bool.and_eq_true] at hp
    exact .dk a (fo o hp.1 kl) n (ih hp.2 fun b hb => kl b (List.mem_append_right _ hb))
  | dt a o n _ ih =>
    simp only [allS, allF, Bool.and_eq_true] at hp
    exact .dt a (fo o hp.1 kl) n (ih hp.2 fun b hb => kl b (List.mem_append_right _ hb))
  | ins a o e _ ih =>
    simp only [allS, allF, Bool.and_eq_true] at hp
    exact .ins a (fo o hp.1 kl) (by rw [kg]; exact e) (ih hp.2 fun b hb => kl b (List.mem_append_right _ hb))
  | nil => exact .nil
  | cons _ _ i1 i2 =>
    simp only [allS, allFL, Bool.and_eq_true] at hp
    exact .cons (i1 hp.1 fun b hb => kl b (List.mem_append_left _ hb)) (i2 hp.2 fun b hb => kl b (List.mem_append_right _ hb))
  | knil => exact .knil
  | kcons _ _ i1 i2 =>
    simp only [allS, allFK, Bool.and_eq_true] at hp
    exact .kcons (i1 hp.1 fun b hb => kl b (List.mem_append_left _ hb)) (i2 hp.2 fun b hb => kl b (List.mem_append_right _ hb))
  | tnil => exact .tnil
  | tcons _ _ i1 i2 =>
    simp only [allS, allFT, Bool.and_eq_true] at hp
    exact .tcons (i1 hp.1 fun b hb => kl b (List.mem_append_left _ hb)) (i2 hp.2 fun b hb => kl b (List.mem_append_right _ hb))
  | snil => exact .snil
  | scons _ _ i1 i2 =>
    simp only [allS, allFS, Bool.and_eq_true] at hp
    exact .scons (i1 hp.1 fun b hb => kl b (List.mem_append_left _ hb)) (i2 hp.2 fun b hb => kl b (List.mem_append_right _ hb))
section
variable {X : Cx} {p : Par} {W : WX} {lk : List Addr} {L : Lk} {σ : L2.St} {H : Hp} {e : Env} {st : Stk} {ws : List Wk} {a b c : Expr} {pos : Pos} {f g h : M D}
/-- behind a call: what came out, and the caller's state -/
theorem Gd.out {K : Kx} (gd : Gd K p lk L σ H e st ws) : ∃ S, (∀ a, S a → domP H a) ∧ ∀ {H' : Hp} {S' : Addr → Prop} {B : List Addr}, OutV K.K K.mg H S S' H' B →
    (∀ {g : Sg}, allS noRo g = true → Rp (zo0 K.K K.mg S' (fun _ => False) H) H' g B → ∀ {front : Stk}, (∀ z G, Rp z G g B → RpS z G front B) → Gd K p lk L σ H' e (front ++ st) ws) := by
  obtain ⟨S, G, A, B0, g⟩ := gd
  have GH : ∀ a o, G a = some o → domP H a := fun a o h => by
    rw [g.hL]
    cases q : L.lo.lookup a with
    | none => exact ⟨o, lockAll_free g.lkd q h⟩
    | some od => exact ⟨_, lockAll_at g.lkd q h⟩
  refine ⟨S, fun a ha => let ⟨_, o, h⟩ := g.sd a ha; GH a o h, fun {H' S' B} o => ?_⟩
  intro gg hro r front hf
  -- the heap behind the call, unlocked
  let G' : Hp := fun a => if (L.lo.lookup a).isSome = true ∨ (L.hd.lookup a).isSome = true then G a else H' a
  have kG : ∀ a u, G a = some u → G' a = some u := fun a u h => by
    show (if _ then G a else H' a) = some u
    by_cases c : (L.lo.lookup a).isSome = true ∨ (L.hd.lookup a).isSome = true
    · rw [if_pos c]; exact h
    · rw [if_neg c]
      have h1 : L.lo.lookup a = none := by
        cases q : L.lo.lookup a with
        | none => rfl
        | some _ => exact absurd (.inl (by rw [q]; rfl)) c
      exact o.keep a u (by rw [g.hL]; exact lockAll_free g.lkd h1 h)
  have kr : ∀ a u, Rd G a u → Rd G' a u := fun a u h => h.elim (fun z => .inl (kG _ _ z)) fun ⟨ob, z⟩ => .inr ⟨ob, kG _ _ z⟩
  have kd : ∀ a, (∃ u, G a = some u) → ∃ u, G' a = some u := fun a ⟨u, h⟩ => ⟨u, kG a u h⟩
  have keyL : LkOk L G' := ⟨fun a od q => let ⟨u, h1, h2⟩ := g.lkd.lo a od q; ⟨u, kG a u h1, h2⟩, fun a o' q => ⟨by
    show (if _ then G a else H' a) = none
    rw [if_pos (.inr (by rw [q]; rfl))]
    exact (g.lkd.hd a o' q).1, (g.lkd.hd a o' q).2⟩⟩
  have hL' : H' = lockAll L G' := by
    funext a
    cases q : L.hd.lookup a with
    | some o' =>
      rw [lockAll_hd q]
      exact o.keep a o' (by rw [g.hL]; exact lockAll_hd q)
    | none =>
      rw [lockAll_eq q]
      cases q2 : L.lo.lookup a with
      | some od =>
        obtain ⟨u, h1, h2⟩ := g.lkd.lo a od q2
        rw [kG a u h1]
        exact o.keep a _ (by rw [g.hL]; exact lockAll_at g.lkd q2 h1)
      | none =>
        have : G' a = H' a := by
          show (if _ then G a else H' a) = H' a
          rw [if_neg (by rw [q, q2]; simp)]
        rw [this]
        cases H' a <;> rfl
  -- a fresh thing
  have fresh : ∀ a, H a = none → G a = none ∧ (L.lo.lookup a = none ∧ L.hd.lookup a = none) ∧ a ∉ lk ∧ ¬ S a ∧ ¬ p.R0 a ∧ a ∉ A ++ B0 ∧ p.H0 a = none := fun a h => g.free h
  have newG : ∀ a, H a = none → G' a = H' a := fun a h => by
    obtain ⟨_, ⟨h1, h2⟩, _⟩ := fresh a h
    show (if _ then G a else H' a) = H' a
    rw [if_neg (by rw [h1, h2]; simp)]
  have back : ∀ a u, (∀ x y, u ≠ .frz x y) → L.hd.lookup a = none → Rd H' a u → Rd G' a u := fun a u nf hh h => by
    rw [hL'] at h
    cases q2 : L.lo.lookup a with
    | none =>
      have e : lockAll L G' a = G' a := by
        rw [lockAll_eq hh, q2]
        cases G' a <;> rfl
      rw [Rd, e] at h
      exact h
    | some od =>
      obtain ⟨x, hx, mx⟩ := keyL.lo a od q2
      rw [Rd, lockAll_at keyL q2 hx] at h
      rcases h with h | ⟨o', h⟩
      · exact absurd (Option.some.inj h).symm (nf _ _)
      · cases h; exact .inl hx
  have kh : HLe (zo0 K.K K.mg S' (fun _ => False) H) H' G' := by
    refine ⟨fun a u h => ?_, fun a u nf hs h => ?_, fun a u _ hr _ => hr.elim⟩
    · refine back a _ (fun x y z => by cases z) ?_ h
      cases q : L.hd.lookup a with
      | none => rfl
      | some o' =>
        exfalso
        have m := (g.lkd.hd a o' q).2
        rw [hL', Rd, lockAll_hd q] at h
        rcases h with h | ⟨o2, h⟩ <;> (cases h; exact m.elim)
    · refine back a u nf ?_ h
      rcases (o.s1 a hs).1 with z | z
      · obtain ⟨_, u0, hu0⟩ := g.sd a z
        exact g.lkd.nohd hu0
      · exact (fresh a z).2.1.2
  have fin : Rp (zo K p S' lk) G' gg B := by
    refine (r.mono (.refl _) kh fun a ha => newG a (o.nw a ha).1).noR hro rfl rfl (fun _ h => h) (fun a hs h0 => (fresh a h0).2.2.2.2.2.2) fun a ha => (fresh a (o.nw a ha).1).2.2.1
  have zl : ZLe (zo K p S lk) (zo K p S' lk) := ⟨rfl, rfl, o.s0, fun _ h => h, fun _ _ h => h, rfl⟩
  have memd : ∀ a ∈ A ++ B0, domP G a := fun a ha => (List.mem_append.mp ha).elim (fun z => let ⟨u, h, _⟩ := g.env.dom a z; ⟨u, h⟩) fun z => let ⟨u, h, _⟩ := g.stk.dom a z; ⟨u, h⟩
  have kA : ∀ a ∈ A ++ B0, G' a = G a := fun a ha => by
    obtain ⟨u, h⟩ := memd a ha
    rw [kG a u h, h]
  have hperm : (A ++ (B ++ B0)).Perm (B ++ (A ++ B0)) := List.perm_iff_count.mpr fun x => by simp only [List.count_append]; omega
  have mem : ∀ a ∈ A ++ (B ++ B0), a ∈ B ∨ a ∈ A ++ B0 := fun a ha => List.mem_append.mp (hperm.mem_iff.mp ha)
  refine ⟨S', G', A, B ++ B0, ⟨g.ok, hL', keyL, fun a od q => (g.lkz a od q).elim (fun z => .inl (o.s0 _ z)) .inr, fun a ha => kd a (g.lke a ha), g.env.mono zl (.of kr) fun a ha => kA a (List.mem_append_left _ ha),
    (hf _ _ fin).append (g.stk.mono zl (.of kr) fun a ha => kA a (List.mem_append_right _ ha)), fun w hw => (g.wk w hw).mono kr, ?_, fun a ha => ?_, fun a ha => ?_, fun a ha => o.s0 _ (g.s0 a ha), fun a ha => ?_, fun a u h hO => kG a u (g.fr a u h hO), fun a ha => kd a (g.oo a ha), g.pin, fun a ha x u hu => ?_⟩⟩
  · refine hperm.nodup_iff.mpr (List.nodup_append.mpr ⟨o.nd, g.nd, fun x hx y hy z => ?_⟩)
    subst z
    exact (fresh x (o.nw x hx).1).2.2.2.2.2.1 hy
  · rcases mem a ha with h | h
    · exact ⟨(o.nw a h).2, (fresh a (o.nw a h).1).2.2.2.2.1⟩
    · refine ⟨fun z => ?_, (g.dj a h).2⟩
      rcases (o.s1 a z).1 with z | z
      · exact (g.dj a h).1 z
      · obtain ⟨u, hu⟩ := memd a h
        rw [(fresh a z).1] at hu; cases hu
  · rcases mem a ha with h | h
    · exact .inl (fresh a (o.nw a h).1).2.2.2.2.2.2
    · exact g.ow a h
  · obtain ⟨h1, u, hu⟩ := o.s1 a ha
    rcases h1 with z | z
    · obtain ⟨h2, h3⟩ := g.sd a z
      exact ⟨h2, kd a h3⟩
    · exact ⟨.inr (.inl (fresh a z).2.2.2.2.2.2), u, by rw [newG a z]; exact hu⟩
  · cases z : H a with
    | none => exact o.nf a z x u (by rw [← newG a z]; exact hu)
    | some w =>
      have hG : ∃ w, G a = some w := by
        cases q : G a with
        | some w => exact ⟨w, rfl⟩
        | none =>
          exfalso
          have e : G' a = G a := by
            show (if _ then G a else H' a) = G a
            refine if_pos (.inr ?_)
            cases t : L.hd.lookup a with
            | some o' => rfl
            | none => rw [g.hL, lockAll_eq t, q] at z; cases z
          rw [e, q] at hu; cases hu
      obtain ⟨w, hG⟩ := hG
      rw [kG a w hG] at hu
      exact g.nf a ha x u (by rw [hG]; exact hu)
end
end DG

set_option Elab.async false
set_option linter.all false
set_option maxHeartbeats 4000000
/-! DGn: calls of defs; a def's body. -/
namespace DG
open PySem PySem.Spec PyProof.Rows L2
set_option autoImplicit false
/-- what a call does, by what came out -/
def resM (r : FRes) : M D := fun e => match r with
  | .ok d => .ok d e
  | .exc c fs => .exc c fs e
  | .bad => .bad
def callF (n : Nat) (F : List D → FRes) (r : M (List D)) : M D := r.bind fun ds => if ds.length = n then resM (F ds) else .bad
theorem Rp.toS {z : Zo} {H : Hp} {B : List Addr} : ∀ {fv : List (Str × V)} {fs : List (Str × D)} {B : List Addr}, Rp z H (.s fv fs) B → RpS z H ((fv.map (·.2)).zip (fs.map (·.2))) B ∧ fv.map (·.1) = fs.map (·.1)
  | _, _, _, .snil => ⟨.nil, rfl⟩
  | _, _, _, .scons (k := k) r rr => by
    obtain ⟨h1, h2⟩ := Rp.toS (B := []) rr
    exact ⟨.cons r h1, by rw [List.map_cons, List.map_cons, h2]⟩
section
variable {X : Cx} {p : Par} {W : WX} {lk : List Addr} {L : Lk} {σ : L2.St} {H : Hp} {e : Env} {st : Stk} {ws : List Wk} {a b c : Expr} {pos : Pos} {f g h : M D}
theorem Rp.w0 {H : Hp} {v : V} {d : D} {S : Addr → Prop} {K : PySem.W.Frag} {mg : Str → Option Value} (r : Rp (zW K mg H) H (.v v d) []) : Rp (zo0 K mg S (domP H) H) H (.v v d) [] :=
  Rp.mono r ⟨rfl, rfl, fun _ h => h.elim, fun _ h => h, fun _ h => h.elim, rfl⟩ .refl fun _ h => by cases h
/-- the promise of a def at a call -/
theorem Gd.call {vs : List V} {ds : List D} {n : Nat} {F : List D → FRes} {Q : VK} (g1 : Gd X p lk L σ H e st ((vs.zip ds).map (fun q => Wk.v q.1 q.2) ++ ws)) (hl : vs.length = ds.length)
    (q : ((if ds.length = n then resM (F ds) else M.bad) e).run (fun d e' => ∀ v H', Gd X p lk L σ H' e' ((v, d) :: st) ws → Q v H') (XW X p W lk L σ st)) : spF X.K X.mg n F vs H Q (WE W σ) := by
  have g2 := g1.subW (ws' := ws) fun w hw => List.mem_append_right _ hw
  obtain ⟨S, sd, out⟩ := g2.out
  by_cases hn : ds.length = n
  · rw [if_pos hn] at q
    refine ⟨ds, S, hl, hn, sd, g2.nft, fun w hw => (wr_args g1 w hw).w0, ?_⟩
    unfold resM at q
    cases hF : F ds with
    | ok d =>
      rw [hF] at q
      exact fun hr v H' S' B o r => q v H' (out (g := .v v d) o hr r (front := [(v, d)]) fun z G r => by
        have := RpS.cons (p := (v, d)) (st := []) r .nil
        rwa [List.append_nil] at this)
    | exc c fs =>
      rw [hF] at q
      refine fun hr cls dd H' S' B hc o r => q cls dd H' ⟨hc, ?_⟩
      rcases r with ⟨rfl, rfl⟩ | ⟨d, fv, rfl, h1, r⟩
      · exact .inl ⟨rfl, (out o (g := .s [] []) rfl .snil (front := []) fun z G _ => .nil).subW fun w hw => (by cases hw)⟩
      · exact .inr ⟨d, fv, rfl, h1, (Rp.toS (B := []) r).2, (out o (g := .s fv fs) hr r (front := (fv.map (·.2)).zip (fs.map (·.2))) fun z G r => (Rp.toS (B := []) r).1).subW fun w hw => (by cases hw)⟩
    | bad => rw [hF] at q; exact False.elim q
  · rw [if_neg hn] at q; exact False.elim q
variable {k n : Nat} {F : List D → FRes} {fa : Addr} {fd : FuncData} {ps : List Str}
theorem pe_callFM {x : Str} {p1 : Pos} {es : List Expr} {r : M (List D)} (Fn : FnOk X.prog X.w X.K X.mg X.base (L2.CX X.prog X.w) k fa fd ps (spF X.K X.mg n F)) (hr : Room k X.A) (hg : Gl X x) (hm : X.mg x = some (.ref fa)) (hk : PySem.W.keepIn X.K (.ref fa) = true) (hb : Binds X.K fd ps [])
    (tk : Takes X W) (ha : PA X (a :: es) (tAW X p W r)) (hdb : (x == ("__debug__" : Str)) = false) (he : starEach (a :: es) X.env = (false, eval a X.env) :: starEach es X.env) (hpl : (backTo pos (starEach es X.env)).any (·.1) = false) :
    PE X (.Call (.Name x p1) (a :: es) [] pos) (tV X p W (callF n F r)) :=
  PEmono (pe_callS Fn hr hg hm hk hb (fun σ => passAt tk σ) ha hdb he hpl) fun σ H Q q => tR_mono (tR_bind q) fun lk L e st ws ds q vs H1 hl g1 => g1.call hl q
theorem pe_callSD0 {CX : CXT} {sp : Sp} {E : L2.St → XK} {x : Str} {p1 : Pos} (F : FnOk X.prog X.w X.K X.mg X.base CX k fa fd ps sp) (hr : Room k X.A) (hg : Gl X x) (hm : X.mg x = some (.ref fa)) (hk : PySem.W.keepIn X.K (.ref fa) = true) (hb : Binds X.K fd ps []) (hx : ∀ σ, PassesAt CX X σ (E σ))
    (hdb : (x == ("__debug__" : Str)) = false) : PE X (.Call (.Name x p1) [] [] pos) (tCallS sp E tNil) := by
  refine ⟨fun pins s σ H Q I h => ?_⟩
  refine wpAny_Call_Name_kw (ld_glob I hg hm ?_ hdb)
  exact PySem.W.callWith_K0 I.kIn hk (run_fnS (us := []) F hr hb (hx σ) I .nil h)
theorem pe_callFM0 {x : Str} {p1 : Pos} (Fn : FnOk X.prog X.w X.K X.mg X.base (L2.CX X.prog X.w) k fa fd ps (spF X.K X.mg n F)) (hr : Room k X.A) (hg : Gl X x) (hm : X.mg x = some (.ref fa)) (hk : PySem.W.keepIn X.K (.ref fa) = true) (hb : Binds X.K fd ps [])
    (tk : Takes X W) (hdb : (x == ("__debug__" : Str)) = false) : PE X (.Call (.Name x p1) [] [] pos) (tV X p W (callF n F (.ret []))) :=
  PEmono (pe_callSD0 Fn hr hg hm hk hb (fun σ => passAt tk σ) hdb) fun σ H Q ⟨lk, L, e, st, ws, g, q⟩ => Gd.call (ds := []) (ws := ws) g rfl q
end
/-! ### a def's body -/
/-- what is known of the context of a body -/
structure BodyCx (P : Program) (w : World) (K : PySem.W.Frag) (mg : Str → Option Value) (base : Heap) (N : List Str) (sc : Scope) (k : Nat) (X : Cx) (W : WX) : Prop where
  prog : X.prog = P
  w : X.w = w
  K : X.K = K
  mg : X.mg = mg
  base : X.base = base
  N : X.N = N
  sc : X.env.scope = sc
  room : Room k X.A
  calm : X.calm = true
  fn : ∀ x, X.fn x = true
  own : PassesOwn (model X.prog X.w) X.A X.env X.xe
  tk : Takes X W
theorem env_start {z : Zo} {H : Hp} : ∀ {vs : List V} {ds : List D} (n : Nat), vs.length = ds.length → (∀ w ∈ vs.zip ds, Rp z H (.v w.1 w.2) []) → RpE z H (vs.map some ++ List.replicate n none) (ds.map some ++ List.replicate n none) []
  | [], [], n, _, _ => by
    induction n with
    | zero => exact .nil
    | succ n ih => exact .skip ih
  | v :: vs, d :: ds, n, hl, h => RpE.cons (A := []) (B := []) (h (v, d) (by simp)) (env_start n (by simpa using hl) fun w hw => h w (by rw [List.zip_cons_cons]; exact List.mem_cons_of_mem _ hw))
  | [], _ :: _, _, h, _ => by simp at h
  | _ :: _, [], _, h, _ => by simp at h
theorem allF_imm_noRo : (∀ d : D, imm d = true → allF noRo d = true) := by
  intro d
  induction d using D.rec (motive_2 := fun ds => allFL (fun _ => false) ds = true → allFL noRo ds = true) (motive_3 := fun ks => allFK (fun _ => false) ks = true → allFK noRo ks = true)
    (motive_4 := fun ks => allFT (fun _ => false) ks = true → allFT noRo ks = true) (motive_5 := fun ks => allFS (fun _ => false) ks = true → allFS noRo ks = true)
    (motive_6 := fun kd => imm kd.2 = true → allF noRo kd.2 = true) (motive_7 := fun kd => imm kd.2 = true → allF noRo kd.2 = true) (motive_8 := fun kd => imm kd.2 = true → allF noRo kd.2 = true) with
  | _ => first | (intro _; rfl) | (simp_all [imm, allF, allFL, allFK, allFT, allFS])
theorem RpS.toK {z : Zo} {H : Hp} : ∀ {fv : List (Str × V)} {fs : List (Str × D)} {B : List Addr}, fv.map (·.1) = fs.map (·.1) → RpS z H ((fv.map (·.2)).zip (fs.map (·.2))) B → Rp z H (.s fv fs) B
  | [], [], _, _, h => by cases h; exact .snil
  | (k, v) :: fv, (k', d) :: fs, B, e, h => by
    simp only [List.map_cons, List.cons.injEq] at e
    obtain ⟨rfl, e⟩ := e
    rw [List.map_cons, List.map_cons, List.zip_cons_cons] at h
    cases h with
    | cons r rr => exact .scons r (RpS.toK e rr)
  | [], _ :: _, _, e, _ => by simp at e
  | _ :: _, [], _, e, _ => by simp at e
section
variable {K : Kx} {H : Hp} {S0 : Addr → Prop} {nl : Nat} {σ' : L2.St} {H' : Hp} {e' : Env}
abbrev par0 (H : Hp) (S0 : Addr → Prop) (nl : Nat) : Par := ⟨H, S0, domP H, [], none, nl⟩
/-- at a def's end: what is handed out -/
theorem GdB.fin {st : Stk} {S : Addr → Prop} {G : Hp} {A B : List Addr} (g : GdB K (par0 H S0 nl) [] ⟨[], []⟩ σ' H' e' st [] S G A B) :
    OutV K.K K.mg H S0 S H' B ∧ ∀ {s : Sg}, allS noRo s = true → (∀ z G, RpS z G st B → Rp z G s B) → Rp (zo0 K.K K.mg S (fun _ => False) H) H' s B := by
  have hG : H' = G := by rw [g.hL, lockAll_nil]
  subst hG
  refine ⟨⟨fun a o h => g.fr a o h (by simp), g.s0, fun a ha => ⟨(g.sd a ha).1.imp_right fun z => z.elim id fun z => (by cases z), (g.sd a ha).2⟩, (List.nodup_append.mp g.nd).2.1, fun a ha => ⟨?_, (g.dj a (List.mem_append_right _ ha)).1⟩, fun a ha => g.nf a (.inl ha)⟩, fun hr hs => ?_⟩
  · rcases g.ow a (List.mem_append_right _ ha) with z | z
    · exact z
    · cases z
  · exact (hs _ _ g.stk).noR hr rfl rfl (fun _ h => h) (fun _ _ h => h) fun _ _ h => by cases h
theorem Gd.fin {v : V} {d d' : D} (g : Gd K (par0 H S0 nl) [] ⟨[], []⟩ σ' H' e' [(v, d)] []) (ho : outD d = some d') : allF noRo d' = true ∧ ∃ S' B, OutV K.K K.mg H S0 S' H' B ∧ Rp (zo0 K.K K.mg S' (fun _ => False) H) H' (.v v d') B := by
  obtain ⟨S, G, A, B, g⟩ := g
  obtain ⟨o, k⟩ := g.fin
  have plain : allF noRo d = true → allF noRo d = true ∧ ∃ S' B, OutV K.K K.mg H S0 S' H' B ∧ Rp (zo0 K.K K.mg S' (fun _ => False) H) H' (.v v d) B := fun h => by
    refine ⟨h, S, B, o, k h fun z G r => ?_⟩
    cases r with
    | cons r rr => cases rr; rw [List.append_nil]; exact r
  have hG : H' = G := by rw [g.hL, lockAll_nil]
  subst hG
  unfold outD at ho
  split at ho
  · rename_i ds
    split at ho
    · rename_i hi
      cases ho
      refine ⟨?_, ?_⟩
      · have := allF_imm_noRo (.tup ds) (by rw [imm, allF]; exact hi)
        rw [allF] at this
        rw [allF, this]; rfl
      · cases hs : g.stk with
        | @cons _ _ A1 B1 r rr =>
          cases rr
          obtain ⟨a, xs, C, rfl, at0, fo, rl, rfl⟩ := Rp.lst_inv (show Rp _ _ (.v v (.lst .fr ds)) A1 from r)
          have hH : H' a = some (.lst xs) := by
            rcases (at0 : Rd H' a (.lst xs)) with h | ⟨x, h⟩
            · exact h
            · exact absurd h (g.nf a (.inl fo.2) _ _)
          refine ⟨fun b => S b ∧ b ≠ a, [a], ⟨o.keep, fun b hb => ⟨o.s0 b hb, ?_⟩, fun b hb => o.s1 b hb.1, by simp, fun b hb => ?_, o.nf⟩, ?_⟩
          · rintro rfl
            obtain ⟨u, hu⟩ := (g.ok.rd b (g.ok.sr b hb)).1
            have fo2 : H b = none := fo.2
            have hu : H b = some u := hu
            rw [fo2] at hu; cases hu
          · rw [List.mem_singleton.mp hb]
            exact ⟨fo.2, fun z => z.2 rfl⟩
          · have q := rl.ofImm (z' := zo0 K.K K.mg (fun b => S b ∧ b ≠ a) (fun _ => False) H) rfl rfl hi
            have q2 := q.2
            subst q2
            exact Rp.lst (f := .own) (A := []) hH (fun z => by cases z) q.1
    · split at ho
      · cases ho; exact plain ‹_›
      · cases ho
  · split at ho
    · cases ho; exact plain ‹_›
    · cases ho
end
theorem fn_body {P : Program} {w : World} {K : PySem.W.Frag} {mg : Str → Option Value} {base : Heap} {k n nl : Nat} {fa : Addr} {x qual : Str} {st : Stmt} {fd : FuncData} {N ps : List Str} {fb : M Fw} (Fn : Fun K x qual st fa fd) (S : FnScope N ps (defScope st)) (hn : ps.length = n)
    (hbody : ∀ (X : Cx) (p : Par) (W : WX), BodyCx P w K mg base N (defScope st) k X W → p.O = [] → p.io = none → p.nl = nl → PSs X (defBody st) (tS X p W fb)) :
    FnOk P w K mg base (L2.CX P w) (k + 1) fa fd ps (spF K mg n (fnRun N.length fb)) := by
  obtain ⟨oc, od, kV, doc, pm, an, cdv, ct, osl, rfl, lk, hcd⟩ := Fn.ex
  refine fn_of lk hcd S (fun vs H Q E ⟨ds, S0, h1, h2, _⟩ => by rw [h1, h2, hn]) fun A outer s H vs Q E hr ⟨ds, S0, hl, hn2, hS, hft, hrp, q⟩ => ?_
  let X : Cx := cxOf (L2.CX P w) P w K mg base N qual (defScope st) fa cdv A outer s H E
  let p : Par := par0 H S0 nl
  let W : WX := fun cls d _ H => E cls d H
  have B : BodyCx P w K mg base N (defScope st) k X W := ⟨rfl, rfl, rfl, rfl, rfl, rfl, rfl, hr, rfl, fun _ => rfl, passes_of rfl, takes_of rfl rfl rfl rfl⟩
  refine ⟨tS X p W fb, hbody X p W B rfl rfl rfl, ?_⟩
  unfold fnRun at q
  by_cases hlen : ds.length ≤ N.length
  case neg => rw [if_neg hlen] at q; exact False.elim q
  rw [if_pos hlen] at q
  have g0 : Gd X p [] ⟨[], []⟩ (start N vs) H (ds.map some ++ List.replicate (N.length - ds.length) none) [] [] := by
    refine ⟨S0, H, [], [], ⟨⟨fun a h => hS a h, fun a h => ⟨h, by simp [p]⟩, fun a h => (by cases h), hft⟩, (lockAll_nil H).symm, ⟨fun a od q => (by cases q), fun a o q => (by cases q)⟩, fun a od q => (by cases q), fun a h => (by cases h), ?_, .nil, fun w hw => (by cases hw), List.nodup_nil, fun a h => (by cases h), fun a h => (by cases h), fun a h => h, fun a h => ⟨.inl h, hS a h⟩, fun a o h _ => h, fun a h => (by cases h), fun v h => (by cases h), fun a h x u z => ?_⟩⟩
    · have := env_start (N.length - ds.length) hl hrp
      show RpE _ H (vs.map some ++ List.replicate (N.length - vs.length) none) _ []
      rw [hl]
      exact this
    · have h : H a = none := h.elim id fun h => by cases h
      rw [h] at z; cases z
  refine ⟨[], ⟨[], []⟩, _, [], g0, ?_⟩
  generalize ds.map some ++ List.replicate (N.length - ds.length) none = e0 at q ⊢
  cases hb : fb e0 with
  | bad => rw [hb] at q; exact q
  | exc c fs e' =>
    rw [hb] at q
    unfold fnRes at q
    dsimp only at q
    by_cases hf : allFS noRo fs = true
    case neg => rw [if_neg hf] at q; exact False.elim q
    rw [if_pos hf] at q
    refine fun σ cls d H' ⟨hc, h⟩ => ?_
    rcases h with ⟨rfl, h⟩ | ⟨dd, fv, rfl, h1, h2, h⟩
    · obtain ⟨S', G, A', B', g⟩ := h
      cases hs : g.stk
      have z := g.fin
      exact q hf cls d H' S' [] hc z.1 (.inl ⟨rfl, rfl⟩)
    · rw [List.append_nil] at h
      obtain ⟨S', G, A', B', g⟩ := h
      have z := g.fin
      exact q hf cls _ H' S' B' hc z.1 (.inr ⟨dd, fv, rfl, h1, z.2 (s := .s fv fs) hf fun z G r => r.toK h2⟩)
  | ok fl e' =>
    rw [hb] at q
    cases fl with
    | ret d =>
      unfold fnRes at q
      dsimp only at q
      cases ho : outD d with
      | none => rw [ho] at q; exact False.elim q
      | some d' =>
        rw [ho] at q
        refine fun v σ' H' g => ?_
        obtain ⟨h1, S', B', h2, h3⟩ := g.fin ho
        exact q h1 v H' S' B' h2 h3
    | next =>
      refine fun σ' H' g => ?_
      obtain ⟨h1, S', B', h2, h3⟩ := Gd.fin (d' := .non) (g.push (v := .non) (d := .non) fun z G _ _ => .non) rfl
      exact q h1 .non H' S' B' h2 h3
    | brk => exact False.elim q
    | cont => exact False.elim q
end DG

set_option Elab.async false
set_option linter.all false
set_option maxHeartbeats 4000000
/-! DGo: ==, !=, in, not in. -/
namespace DG
open PySem PySem.Spec PyProof.Rows L2
set_option autoImplicit false
/-! ### plain data -/
mutual
def toPy : D → Option PyData
  | .non => some .none
  | .bl b => some (.bool b)
  | .int i => some (.int i)
  | .str x => some (.str x)
  | .tup ds => (toPyL ds).map .tuple
  | .lst _ ds => (toPyL ds).map .list
  | _ => none
def toPyL : List D → Option (List PyData)
  | [] => some []
  | d :: r => match toPy d, toPyL r with
    | some p, some ps => some (p :: ps)
    | _, _ => none
end
def shp (d : D) : Option PyData := (toPy d).bind fun p => if SeqAt.shaped p = true then some p else none
def PyS (K : PySem.W.Frag) (H : Hp) : Sg → Prop
  | .v v d => ∀ p, toPy d = some p → Dp K H v p
  | .l xs ds => ∀ ps, toPyL ds = some ps → DpAll K H xs ps
  | _ => True
theorem Rp.py {z : Zo} {H : Hp} {g : Sg} {A : List Addr} (h : Rp z H g A) : PyS z.K H g := by
  induction h with
  | non => intro p e; cases e; exact .non
  | bl b => intro p e; cases e; exact .bl b
  | int i => intro p e; cases e; exact .int i
  | str x => intro p e; cases e; exact .str x
  | ty n => intro p e; cases e
  | fn e => intro p e; cases e
  | tup t _ ih =>
    intro p e
    simp only [toPy, Option.map_eq_some_iff] at e
    obtain ⟨ps, e, rfl⟩ := e
    exact .tup t.seq (ih ps e)
  | lst at0 o _ ih =>
    intro p e
    simp only [toPy, Option.map_eq_some_iff] at e
    obtain ⟨ps, e, rfl⟩ := e
    exact .lst (.inl at0.rd) (ih ps e)
  | dk => intro p e; cases e
  | dt => intro p e; cases e
  | ins => intro p e; cases e
  | nil => intro p e; cases e; exact .nil
  | @cons v d vs ds A B _ _ i1 i2 =>
    intro p e
    cases q1 : toPy d with
    | none => simp only [toPyL, q1] at e; cases e
    | some p1 =>
      cases q2 : toPyL ds with
      | none => simp only [toPyL, q1, q2] at e; cases e
      | some p2 =>
        simp only [toPyL, q1, q2, Option.some.injEq] at e
        subst e
        exact .cons (i1 p1 q1) (i2 p2 q2)
  | _ => trivial
section
variable {X : Cx} {p : Par} {W : WX} {lk : List Addr} {L : Lk} {σ : L2.St} {H : Hp} {e : Env} {st : Stk} {ws : List Wk} {a b c : Expr} {pos : Pos} {f g h : M D}
theorem Wr_py {v : V} {d : D} {q : PyData} (w : Wr X H v d) (h : shp d = some q) : Dp X.K H v q ∧ SeqAt.shaped q = true := by
  unfold shp at h
  cases e : toPy d with
  | none => rw [e] at h; cases h
  | some r =>
    rw [e] at h
    dsimp only [Option.bind] at h
    by_cases hz : SeqAt.shaped r = true
    · rw [if_pos hz] at h
      cases h
      exact ⟨Rp.py w _ e, hz⟩
    · rw [if_neg hz] at h; cases h
/-- scalars as the kit's scal has them -/
def scalD : D → D → Option Bool
  | .non, .non => some true
  | .non, .int _ => some false | .int _, .non => some false
  | .non, .bl _ => some false | .bl _, .non => some false
  | .non, .str _ => some false | .str _, .non => some false
  | .int i, .int j => some (decide (i = j))
  | .bl i, .bl j => some (decide (i = j))
  | .str i, .str j => some (decide (i = j))
  | .int _, .str _ => some false | .str _, .int _ => some false
  | .bl _, .str _ => some false | .str _, .bl _ => some false
  | _, _ => none
theorem scalD_of {x y : V} {dx dy : D} {b : Bool} (w1 : Wr X H x dx) (w2 : Wr X H y dy) (h : scalD dx dy = some b) : scal x y = true ∧ decide (x = y) = b := by
  cases dx <;> cases dy <;> simp only [scalD, reduceCtorEq, Option.some.injEq] at h <;> subst h <;> cases w1 <;> cases w2 <;> simp [scal]
def eqB (dx dy : D) : Option Bool := match scalD dx dy with
  | some b => some b
  | none => match shp dx, shp dy with
    | some p, some q => some (PyData.eqv p q)
    | _, _ => none
def eqD (dx dy : D) : Option Nw := (eqB dx dy).map fun b => .sc (.bl b)
def neD (dx dy : D) : Option Nw := (eqB dx dy).map fun b => .sc (.bl !b)
theorem eqB_of {x y : V} {dx dy : D} {b : Bool} (w1 : Wr X H x dx) (w2 : Wr X H y dy) (h : eqB dx dy = some b) : (scal x y = true ∧ decide (x = y) = b) ∨ ∃ p q, Dp X.K H x p ∧ Dp X.K H y q ∧ SeqAt.shaped p = true ∧ SeqAt.shaped q = true ∧ PyData.eqv p q = b := by
  unfold eqB at h
  cases q : scalD dx dy with
  | some k =>
    rw [q] at h
    cases h
    exact .inl (scalD_of w1 w2 q)
  | none =>
    rw [q] at h
    dsimp only at h
    cases q1 : shp dx with
    | none => rw [q1] at h; cases h
    | some p1 =>
      cases q2 : shp dy with
      | none => rw [q1, q2] at h; cases h
      | some p2 =>
        rw [q1, q2] at h
        cases h
        exact .inr ⟨p1, p2, (Wr_py w1 q1).1, (Wr_py w2 q2).1, (Wr_py w1 q1).2, (Wr_py w2 q2).2, rfl⟩
theorem on_eq (hu : X.A.units + 64 < cLine) : OpN X (compareOp .Eq) eqD := .of (op_eq.or (op_eqD hu)) fun x y H Q dx dy n w1 w2 ho q => by
  unfold eqD at ho
  cases hb : eqB dx dy with
  | none => rw [hb] at ho; cases ho
  | some b =>
    rw [hb] at ho
    cases ho
    obtain ⟨v, hv, q⟩ := q
    cases hv
    rcases eqB_of w1 w2 hb with ⟨h1, h2⟩ | ⟨p1, p2, h1, h2, h3, h4, h5⟩
    · exact .inl ⟨h1, by rw [h2]; exact q⟩
    · exact .inr ⟨p1, p2, h1, h2, h3, h4, by rw [h5]; exact q⟩
theorem on_ne (hu : X.A.units + 64 < cLine) : OpN X (compareOp .NotEq) neD := .of (op_ne.or (op_neD hu)) fun x y H Q dx dy n w1 w2 ho q => by
  unfold neD at ho
  cases hb : eqB dx dy with
  | none => rw [hb] at ho; cases ho
  | some b =>
    rw [hb] at ho
    cases ho
    obtain ⟨v, hv, q⟩ := q
    cases hv
    rcases eqB_of w1 w2 hb with ⟨h1, h2⟩ | ⟨p1, p2, h1, h2, h3, h4, h5⟩
    · exact .inl ⟨h1, by rw [h2]; exact q⟩
    · exact .inr ⟨p1, p2, h1, h2, h3, h4, by rw [h5]; exact q⟩
/-! ### in -/
def flatD : D → Bool
  | .non => true | .bl _ => true | .int _ => true | .str _ => true
  | _ => false
/-- == of flat things -/
def eqF : D → D → Bool
  | .non, .non => true
  | .bl a, .bl b => a == b
  | .bl a, .int b => (if a then 1 else 0) == b
  | .int a, .bl b => a == (if b then 1 else 0)
  | .int a, .int b => a == b
  | .str a, .str b => a == b
  | _, _ => false
theorem eqF_of {x y : V} {dx dy : D} (w1 : Wr X H x dx) (w2 : Wr X H y dy) (h1 : flatD dx = true) (h2 : flatD dy = true) : eqV x y = eqF dx dy := by
  cases dx <;> simp only [flatD, Bool.false_eq_true] at h1 <;> cases dy <;> simp only [flatD, Bool.false_eq_true] at h2 <;> cases w1 <;> cases w2 <;> rfl
theorem flatV_of {x : V} {dx : D} (w1 : Wr X H x dx) (h1 : flatD dx = true) : flatV x = true := by
  cases dx <;> simp only [flatD, Bool.false_eq_true] at h1 <;> cases w1 <;> rfl
theorem inV_of {x : V} {dx : D} (w1 : Wr X H x dx) (h1 : flatD dx = true) : ∀ {xs : List V} {ds : List D}, Rp (zW X.K X.mg H) H (.l xs ds) [] → ds.all flatD = true → xs.all flatV = true ∧ inV x xs = ds.any fun d => eqF d dx
  | [], [], _, _ => ⟨rfl, rfl⟩
  | y :: ys, d :: ds, r, h => by
    simp only [List.all_cons, Bool.and_eq_true] at h
    obtain ⟨r1, r2⟩ := r.cons_nil
    obtain ⟨k1, k2⟩ := inV_of w1 h1 r2 h.2
    refine ⟨by rw [List.all_cons, flatV_of r1 h.1, k1]; rfl, ?_⟩
    unfold inV at k2 ⊢
    rw [List.any_cons, List.any_cons, k2, eqF_of r1 w1 h.1 h1]
  | [], _ :: _, r, _ => by have := r.lenL; simp at this
  | _ :: _, [], r, _ => by have := r.lenL; simp at this
def keyD : D → Option Key
  | .int i => some (.inl i)
  | .str x => some (.inr x)
  | _ => none
def keysD : List D → Option (List Key)
  | [] => some []
  | d :: r => match keyD d, keysD r with
    | some k, some ks => some (k :: ks)
    | _, _ => none
theorem keyD_of {x : V} {d : D} {k : Key} {z : Zo} {A : List Addr} (w : Rp z H (.v x d) A) (h : keyD d = some k) : x = kV k := by
  cases d <;> simp only [keyD, reduceCtorEq, Option.some.injEq] at h <;> subst h <;> cases w <;> rfl
theorem keysD_of {z : Zo} {A : List Addr} : ∀ {xs : List V} {ds : List D} {ks : List Key} {A : List Addr}, Rp z H (.l xs ds) A → keysD ds = some ks → xs = ks.map kV
  | [], [], ks, _, _, h => by cases h; rfl
  | y :: ys, d :: ds, ks, _, r, h => by
    obtain ⟨A1, A2, r1, r2, _⟩ := r.cons_inv
    cases q1 : keyD d with
    | none => simp only [keysD, q1] at h; cases h
    | some k =>
      cases q2 : keysD ds with
      | none => simp only [keysD, q1, q2] at h; cases h
      | some ks' =>
        simp only [keysD, q1, q2, Option.some.injEq] at h
        subst h
        rw [List.map_cons, ← keyD_of r1 q1, ← keysD_of (z := z) (A := []) r2 q2]
  | [], _ :: _, _, _, r, _ => by have := r.lenL; simp at this
  | _ :: _, [], _, _, r, _ => by have := r.lenL; simp at this
theorem getA_isSome {κ α β : Type} [DecidableEq κ] {l : List (κ × α)} {m : List (κ × β)} (h : l.map (·.1) = m.map (·.1)) (k : κ) : (getA l k).isSome = (getA m k).isSome := by
  have := getA_none l k
  have := getA_none m k
  rw [← h] at this
  cases q : getA l k <;> cases q2 : getA m k <;> simp_all
/-- x in y -/
def inB : D → D → Option Bool
  | .str x, .str y => some (subS x y)
  | d, .lst f ds => if flatD d = true ∧ ds.all flatD = true then some (ds.any fun z => eqF z d) else match shp d, shp (.lst f ds) with
    | some p, some (.list ps) => some (ps.any fun z => PyData.eqv z p)
    | _, _ => none
  | d, .tup ds => if flatD d = true ∧ ds.all flatD = true then some (ds.any fun z => eqF z d) else none
  | d, .dk _ ks => (keyD d).map fun k => (getA ks k).isSome
  | .tup ds, .dt _ ks => (keysD ds).map fun k => (getA ks k).isSome
  | _, _ => none
def inD (x y : D) : Option Nw := (inB x y).map fun b => .sc (.bl b)
def ninD (x y : D) : Option Nw := (inB x y).map fun b => .sc (.bl !b)
/-- the readings of in, by its answer -/
def rInAll (K : PySem.W.Frag) (x y : V) (H : Hp) (r : Bool) : Prop :=
  (∃ i j, x = .str i ∧ y = .str j ∧ r = subS i j) ∨ (∃ q xs, y = .ref q ∧ (SqL K H q xs ∨ SqT K H q xs) ∧ flatV x = true ∧ xs.all flatV = true ∧ r = inV x xs) ∨
    (∃ d ds, Dp K H x d ∧ Dp K H y (.list ds) ∧ SeqAt.shaped d = true ∧ SeqAt.shaped (.list ds) = true ∧ r = ds.any fun z => PyData.eqv z d) ∨ ∃ a o, y = .ref a ∧ DGet H a x o ∧ r = o.isSome
theorem inB_of {x y : V} {dx dy : D} {r : Bool} (nf : ∀ a o xs, H a ≠ some (.frz o (.tup xs))) (w1 : Wr X H x dx) (w2 : Wr X H y dy) (h : inB dx dy = some r) : rInAll X.K x y H r := by
  unfold inB at h
  split at h
  · cases h
    cases Wr_str w1
    cases Wr_str w2
    exact .inl ⟨_, _, rfl, rfl, rfl⟩
  · rename_i d f ds
    split at h
    · rename_i hz
      cases h
      obtain ⟨a, xs, rfl, rd, rl⟩ := Wr_lst w2
      obtain ⟨k1, k2⟩ := inV_of w1 hz.1 rl hz.2
      exact .inr (.inl ⟨a, xs, rfl, .inl (.inl rd), flatV_of w1 hz.1, k1, k2.symm⟩)
    · split at h
      · rename_i p ps h1 h2
        cases h
        exact .inr (.inr (.inl ⟨p, ps, (Wr_py w1 h1).1, (Wr_py w2 h2).1, (Wr_py w1 h1).2, (Wr_py w2 h2).2, rfl⟩))
      · cases h
  · rename_i d ds
    split at h
    · rename_i hz
      cases h
      obtain ⟨a, xs, rfl, rd, rl⟩ := Wr_tup w2
      obtain ⟨k1, k2⟩ := inV_of w1 hz.1 rl hz.2
      exact .inr (.inl ⟨a, xs, rfl, .inr rd, flatV_of w1 hz.1, k1, k2.symm⟩)
    · cases h
  · rename_i f ks
    cases hk : keyD dx with
    | none => rw [hk] at h; cases h
    | some k =>
      rw [hk] at h
      cases h
      obtain ⟨a, xs, C, rfl, at0, o, n, rk, q⟩ := Rp.dk_inv w2
      refine .inr (.inr (.inr ⟨a, valV xs k, rfl, .inl ⟨xs, k, at0.rd, keyD_of w1 hk, rfl⟩, ?_⟩))
      rw [valV_getA]
      exact (getA_isSome rk.keysK k).symm
  · rename_i ds f ks
    cases hk : keysD ds with
    | none => rw [hk] at h; cases h
    | some k =>
      rw [hk] at h
      cases h
      obtain ⟨a, xs, C, rfl, at0, o, n, rk, q⟩ := Rp.dt_inv w2
      obtain ⟨b, ys, rfl, t, rl⟩ := Rp.tup_inv w1
      have t : Rd H b (.tup ys) := t
      have hb : H b = some (.tup ys) := t.elim id fun ⟨o, z⟩ => absurd z (nf b o ys)
      obtain rfl := keysD_of (z := zW X.K X.mg H) (A := []) rl hk
      refine .inr (.inr (.inr ⟨a, valV xs k, rfl, .inr ⟨xs, k, b, at0.rd, rfl, hb, rfl⟩, ?_⟩))
      rw [valV_getA]
      exact (getA_isSome rk.keysT k).symm
  · cases h
theorem op_in_dict (hu : X.A.units + 1 < cLine) : OpR X (compareOp .In) (fun x y H Q => ∃ a o, y = .ref a ∧ DGet H a x o ∧ Q (.bl o.isSome) H) := by
  intro pins s σ H x y v u Q I rx ry h
  obtain ⟨a, o, rfl, g, q⟩ := h
  obtain rfl : u = Value.ref a := ry
  exact d_in hu I g rx fun s' I' => ⟨.bl _, H, I', rfl, q⟩
theorem op_nin_dict (hu : X.A.units + 1 < cLine) : OpR X (compareOp .NotIn) (fun x y H Q => ∃ a o, y = .ref a ∧ DGet H a x o ∧ Q (.bl !o.isSome) H) := by
  intro pins s σ H x y v u Q I rx ry h
  obtain ⟨a, o, rfl, g, q⟩ := h
  obtain rfl : u = Value.ref a := ry
  exact d_notIn hu I g rx fun s' I' => ⟨.bl _, H, I', rfl, q⟩
theorem op_in_all (hu : X.A.units + 65 < cLine) : OpR X (compareOp .In) (fun x y H Q => ∃ r, rInAll X.K x y H r ∧ Q (.bl r) H) := by
  intro pins s σ H x y v u Q I rx ry ⟨r, h, q⟩
  rcases h with ⟨i, j, e1, e2, rfl⟩ | ⟨p, xs, h1, h2, h3, h4, rfl⟩ | ⟨d, ds, h1, h2, h3, h4, rfl⟩ | ⟨a, o, h1, h2, rfl⟩
  · exact op_in_str pins s σ H x y v u Q I rx ry ⟨i, j, e1, e2, q⟩
  · exact op_in_seq pins s σ H x y v u Q I rx ry ⟨p, xs, h1, h2, h3, h4, q⟩
  · exact op_inD hu pins s σ H x y v u Q I rx ry ⟨d, ds, h1, h2, h3, h4, q⟩
  · exact op_in_dict (by omega) pins s σ H x y v u Q I rx ry ⟨a, o, h1, h2, q⟩
theorem op_nin_all (hu : X.A.units + 65 < cLine) : OpR X (compareOp .NotIn) (fun x y H Q => ∃ r, rInAll X.K x y H r ∧ Q (.bl !r) H) := by
  intro pins s σ H x y v u Q I rx ry ⟨r, h, q⟩
  rcases h with ⟨i, j, e1, e2, rfl⟩ | ⟨p, xs, h1, h2, h3, h4, rfl⟩ | ⟨d, ds, h1, h2, h3, h4, rfl⟩ | ⟨a, o, h1, h2, rfl⟩
  · exact op_notin_str pins s σ H x y v u Q I rx ry ⟨i, j, e1, e2, q⟩
  · exact op_notIn_seq pins s σ H x y v u Q I rx ry ⟨p, xs, h1, h2, h3, h4, q⟩
  · exact op_notInD hu pins s σ H x y v u Q I rx ry ⟨d, ds, h1, h2, h3, h4, q⟩
  · exact op_nin_dict (by omega) pins s σ H x y v u Q I rx ry ⟨a, o, h1, h2, q⟩
theorem on_in (hu : X.A.units + 65 < cLine) : OpN X (compareOp .In) inD := .of' (op_in_all hu) fun x y H Q dx dy n nf w1 w2 ho q => by
  unfold inD at ho
  cases hb : inB dx dy with
  | none => rw [hb] at ho; cases ho
  | some b =>
    rw [hb] at ho
    cases ho
    obtain ⟨v, hv, q⟩ := q
    cases hv
    exact ⟨b, inB_of nf w1 w2 hb, q⟩
theorem on_nin (hu : X.A.units + 65 < cLine) : OpN X (compareOp .NotIn) ninD := .of' (op_nin_all hu) fun x y H Q dx dy n nf w1 w2 ho q => by
  unfold ninD at ho
  cases hb : inB dx dy with
  | none => rw [hb] at ho; cases ho
  | some b =>
    rw [hb] at ho
    cases ho
    obtain ⟨v, hv, q⟩ := q
    cases hv
    exact ⟨b, inB_of nf w1 w2 hb, q⟩
end
end DG

set_option Elab.async false
set_option linter.all false
set_option maxHeartbeats 4000000
/-! DGp: and, or, not as values; methods of texts; displays of dicts; built-in functions. -/
namespace DG
open PySem PySem.Spec PyProof.Rows L2
set_option autoImplicit false
section
variable {X : Cx} {p : Par} {W : WX} {lk : List Addr} {L : Lk} {σ : L2.St} {H : Hp} {e : Env} {st : Stk} {ws : List Wk} {a b c : Expr} {pos : Pos} {f g h : M D}
theorem tR_at {α : Type} {f : M α} {post : List Addr → Lk → Env → Stk → List Wk → α → Prop} (gd : Gd X p lk L σ H e st ws) (q : (f e).run (fun a e' => post lk L e' st ws a) (XW X p W lk L σ st)) : tR X p W f σ H post := ⟨lk, L, e, st, ws, gd, q⟩
def andV (f g : M D) : M D := f.bind fun d => match d with
  | .bl true => g
  | .bl false => .ret (.bl false)
  | _ => .bad
def orV (f g : M D) : M D := f.bind fun d => match d with
  | .bl false => g
  | .bl true => .ret (.bl true)
  | _ => .bad
theorem pe_andV {rest : List Expr} (ha : PE X a (tW X p W f)) (hb : PE X (.BoolOp .And (b :: rest) pos) (tV X p W g)) : PE X (.BoolOp .And (a :: b :: rest) pos) (tV X p W (andV f g)) :=
  PEmono (pe_and ha hb) fun σ H Q q => tR_mono (tR_bind q) fun lk L e st ws d q v H' g' => by
    cases d with
    | bl k =>
      cases Wr_bl (g'.wr List.mem_cons_self)
      refine ⟨k, rfl, ?_⟩
      cases k with
      | true => rw [if_pos rfl]; exact tR_at g'.dropW q
      | false => rw [if_neg Bool.false_ne_true]; exact q _ _ (g'.dropW.push fun z G _ _ => .bl false)
    | _ => exact False.elim q
theorem pe_orV {rest : List Expr} (ha : PE X a (tW X p W f)) (hb : PE X (.BoolOp .Or (b :: rest) pos) (tV X p W g)) : PE X (.BoolOp .Or (a :: b :: rest) pos) (tV X p W (orV f g)) :=
  PEmono (pe_or ha hb) fun σ H Q q => tR_mono (tR_bind q) fun lk L e st ws d q v H' g' => by
    cases d with
    | bl k =>
      cases Wr_bl (g'.wr List.mem_cons_self)
      refine ⟨k, rfl, ?_⟩
      cases k with
      | false => rw [if_neg Bool.false_ne_true]; exact tR_at g'.dropW q
      | true => rw [if_pos rfl]; exact q _ _ (g'.dropW.push fun z G _ _ => .bl true)
    | _ => exact False.elim q
def notV (f : M D) : M D := f.bind fun d => match d with
  | .bl k => .ret (.bl (!k))
  | _ => .bad
theorem pe_notV (ha : PE X a (tW X p W f)) : PE X (.UnaryOp .Not a pos) (tV X p W (notV f)) :=
  PEmono (pe_not ha) fun σ H Q q => tR_mono (tR_bind q) fun lk L e st ws d q v H' g' => by
    cases d with
    | bl k =>
      cases Wr_bl (g'.wr List.mem_cons_self)
      exact ⟨k, rfl, q _ _ (g'.dropW.push fun z G _ _ => .bl _)⟩
    | _ => exact False.elim q
def ifV (t : M Bool) (f g : M D) : M D := t.bind fun k => if k then f else g
theorem pe_ifV {t : M Bool} (hc : PT X c (tT X p W t)) (ha : PE X a (tV X p W f)) (hb : PE X b (tV X p W g)) : PE X (.IfExp c a b pos) (tV X p W (ifV t f g)) :=
  PEmono (pe_ifExp hc ha hb) fun σ H Q q => tR_mono (tR_bind q) fun lk L e st ws k q H' g' => by
    cases k with
    | true => rw [if_pos rfl]; exact tR_at g' q
    | false => rw [if_neg Bool.false_ne_true]; exact tR_at g' q
theorem pe_ifW {t : M Bool} (hc : PT X c (tT X p W t)) (ha : PE X a (tW X p W f)) (hb : PE X b (tW X p W g)) : PE X (.IfExp c a b pos) (tW X p W (ifV t f g)) :=
  PEmono (pe_ifExp hc ha hb) fun σ H Q q => tR_mono (tR_bind q) fun lk L e st ws k q H' g' => by
    cases k with
    | true => rw [if_pos rfl]; exact tR_at g' q
    | false => rw [if_neg Bool.false_ne_true]; exact tR_at g' q
/-! ### a text's methods -/
/-- a method by values: it gives a new thing -/
def MtN (X : Cx) (id : String) (op : D → List D → Option Nw) : Prop :=
  MtR X id fun x xs H Q => (∀ a o xs, H a ≠ some (.frz o (.tup xs))) ∧ ∃ dx ds r, Wr X H x dx ∧ xs.length = ds.length ∧ (∀ w ∈ xs.zip ds, Wr X H w.1 w.2) ∧ op dx ds = some r ∧ NewR X H r Q
theorem MtN.of {id : String} {op : D → List D → Option Nw} {r : V → List V → Hp → VK → Prop} (h : MtR X id r) (k : ∀ x xs H Q dx ds n, (∀ a o xs, H a ≠ some (.frz o (.tup xs))) → Wr X H x dx → xs.length = ds.length → (∀ w ∈ xs.zip ds, Wr X H w.1 w.2) → op dx ds = some n → NewR X H n Q → r x xs H Q) : MtN X id op := by
  intro pins s σ H x xs v us Q I rx rs ⟨nf, dx, ds, n, hw1, hl, hw, ho, q⟩
  exact h pins s σ H x xs v us Q I rx rs (k x xs H Q dx ds n nf hw1 hl hw ho q)
def isStr : D → Bool
  | .str _ => true
  | _ => false
def smM1 (op : D → List D → Option Nw) (f g : M D) : M D := f.bind fun x => if isStr x then g.bind fun y => newM (op x [y]) else .bad
def smM0 (op : D → List D → Option Nw) (f : M D) : M D := f.bind fun x => if isStr x then newM (op x []) else .bad
theorem pe_smM1 {id : String} {name : Str} {op : D → List D → Option Nw} {apos : Pos} (slot : Slot "str" name id) (ty : typeOf (.builtin id) = pure (.type "method_descriptor")) (rule : MtN X id op) (ha : PE X a (tW X p W f)) (hb : PE X b (tW X p W g))
    (hs : starEach [b] X.env = [(false, eval b X.env)]) (hbase : attributeBase a name X.env (eval a X.env) = eval a X.env) (hline : (apos.endLine == pos.line) = true) :
    PE X (.Call (.Attribute a name apos) [b] [] pos) (tV X p W (smM1 op f g)) :=
  PEmono (pe_m1 slot ty rule ha hb hs hbase hline) fun σ H Q q => tR_mono (tR_bind q) fun lk L e st ws d q v H1 g1 => by
    by_cases hz : isStr d = true
    · rw [if_pos hz] at q
      refine ⟨?_, lk, L, e, st, .v v d :: ws, g1, ?_⟩
      · cases d <;> simp only [isStr, Bool.false_eq_true] at hz
        exact ⟨_, Wr_str (g1.wr List.mem_cons_self)⟩
      · unfold M.bind at q
        cases hg : g e with
        | exc => rw [hg] at q; exact q
        | bad => rw [hg] at q; exact q
        | ok y e' =>
          rw [hg] at q
          intro u H2 g2
          obtain ⟨r, h1, h2⟩ := newM_run q g2.dropW.dropW
          exact ⟨g2.nft, d, [y], r, g2.wr (List.mem_cons_of_mem _ List.mem_cons_self), rfl, fun w hw => (by
            rw [List.mem_singleton.mp (show w ∈ [(u, y)] from hw)]; exact g2.wr List.mem_cons_self), h1, h2⟩
    · rw [if_neg hz] at q; exact False.elim q
theorem pe_smM0 {id : String} {name : Str} {op : D → List D → Option Nw} {apos : Pos} (slot : Slot "str" name id) (ty : typeOf (.builtin id) = pure (.type "method_descriptor")) (rule : MtN X id op) (ha : PE X a (tW X p W f))
    (hbase : attributeBase a name X.env (eval a X.env) = eval a X.env) (hline : (apos.endLine == pos.line) = true) :
    PE X (.Call (.Attribute a name apos) [] [] pos) (tV X p W (smM0 op f)) :=
  PEmono (pe_m0 slot ty rule ha hbase hline) fun σ H Q q => tR_mono (tR_bind q) fun lk L e st ws d q v H1 g1 => by
    by_cases hz : isStr d = true
    · rw [if_pos hz] at q
      refine ⟨?_, ?_⟩
      · cases d <;> simp only [isStr, Bool.false_eq_true] at hz
        exact ⟨_, Wr_str (g1.wr List.mem_cons_self)⟩
      · obtain ⟨r, h1, h2⟩ := newM_run q g1.dropW
        exact ⟨g1.nft, d, [], r, g1.wr List.mem_cons_self, rfl, fun w hw => (by cases hw), h1, h2⟩
    · rw [if_neg hz] at q; exact False.elim q
def strsD : List D → Option (List Str)
  | [] => some []
  | .str x :: r => (strsD r).map (x :: ·)
  | _ :: _ => none
theorem strsD_of {z : Zo} : ∀ {xs : List V} {ds : List D} {ys : List Str} {A : List Addr}, Rp z H (.l xs ds) A → strsD ds = some ys → xs = ys.map V.str
  | [], [], _, _, _, h => by cases h; rfl
  | x :: xs, d :: ds, ys, _, r, h => by
    obtain ⟨A1, A2, r1, r2, _⟩ := r.cons_inv
    cases d <;> simp only [strsD, reduceCtorEq] at h
    cases q : strsD ds with
    | none => rw [q] at h; cases h
    | some zs =>
      rw [q] at h
      cases h
      rw [strsD_of r2 q]
      cases r1
      rfl
  | [], _ :: _, _, _, r, _ => by have := r.lenL; simp at this
  | _ :: _, [], _, _, r, _ => by have := r.lenL; simp at this
def bigT : Nat := 16777216
def joinD : D → List D → Option Nw
  | .str x, [.lst _ ds] => (strsD ds).bind fun ys => if (ys.map (·.length)).sum + ys.length * x.length ≤ bigT then some (.sc (.str (Txt.join x ys))) else none
  | .str x, [.tup ds] => (strsD ds).bind fun ys => if (ys.map (·.length)).sum + ys.length * x.length ≤ bigT then some (.sc (.str (Txt.join x ys))) else none
  | _, _ => none
theorem mn_join : MtN X "str.join" joinD := .of mt_join fun x xs H Q dx ds n nf w1 hl hw ho q => by
  unfold joinD at ho
  split at ho
  · rename_i x f ds
    obtain ⟨v, rfl⟩ := len1 hl
    cases Wr_str w1
    cases hs : strsD ds with
    | none => rw [hs] at ho; cases ho
    | some ys =>
      rw [hs] at ho
      dsimp only [Option.bind] at ho
      split at ho
      · rename_i hz
        cases ho
        obtain ⟨a, zs, rfl, rd, r⟩ := Wr_lst (hw (v, .lst f ds) (by simp))
        obtain rfl := strsD_of r hs
        obtain ⟨v, hv, q⟩ := q
        cases hv
        exact ⟨_, a, ys, rfl, rfl, .inl (.inl rd), hz, q⟩
      · cases ho
  · rename_i x ds
    obtain ⟨v, rfl⟩ := len1 hl
    cases Wr_str w1
    cases hs : strsD ds with
    | none => rw [hs] at ho; cases ho
    | some ys =>
      rw [hs] at ho
      dsimp only [Option.bind] at ho
      split at ho
      · rename_i hz
        cases ho
        obtain ⟨a, zs, rfl, rd, r⟩ := Wr_tup (hw (v, .tup ds) (by simp))
        obtain rfl := strsD_of r hs
        obtain ⟨v, hv, q⟩ := q
        cases hv
        exact ⟨_, a, ys, rfl, rfl, .inr rd, hz, q⟩
      · cases ho
  · cases ho
def splitD : D → List D → Option Nw
  | .str x, [.str y] => if (y.length == 0) = false ∧ x.length + 2 ≤ sizeLine then some (.nl ((Txt.split x y).map .str)) else none
  | _, _ => none
theorem strs_rp {z : Zo} {H : Hp} : ∀ ys : List Str, Rp z H (.l (ys.map V.str) (ys.map D.str)) []
  | [] => .nil
  | y :: ys => .cons (A := []) (B := []) (.str y) (strs_rp ys)
theorem mn_split : MtN X "str.split" splitD := .of mt_split fun x xs H Q dx ds n nf w1 hl hw ho q => by
  unfold splitD at ho
  split at ho
  · rename_i x y
    split at ho
    · rename_i hz
      cases ho
      obtain ⟨v, rfl⟩ := len1 hl
      cases Wr_str w1
      cases Wr_str (hw (v, .str y) (by simp))
      exact ⟨x, y, rfl, rfl, hz.1, hz.2, fun p hp => q.2 p _ hp (strs_rp _)⟩
    · cases ho
  · cases ho
def startsD : D → List D → Option Nw
  | .str x, [.str y] => some (.sc (.bl (Txt.startswith x y)))
  | _, _ => none
theorem mn_starts : MtN X "str.startswith" startsD := .of mt_startswith fun x xs H Q dx ds n nf w1 hl hw ho q => by
  unfold startsD at ho
  split at ho
  · rename_i x y
    cases ho
    obtain ⟨v, rfl⟩ := len1 hl
    cases Wr_str w1
    cases Wr_str (hw (v, .str y) (by simp))
    obtain ⟨v, hv, q⟩ := q
    cases hv
    exact ⟨x, y, rfl, rfl, q⟩
  · cases ho
/-! ### all, any, str, int, list -/
def blsD : List D → Option (List Bool)
  | [] => some []
  | .bl x :: r => (blsD r).map (x :: ·)
  | _ :: _ => none
theorem blsD_of {z : Zo} : ∀ {xs : List V} {ds : List D} {ys : List Bool} {A : List Addr}, Rp z H (.l xs ds) A → blsD ds = some ys → xs = ys.map V.bl
  | [], [], _, _, _, h => by cases h; rfl
  | x :: xs, d :: ds, ys, _, r, h => by
    obtain ⟨A1, A2, r1, r2, _⟩ := r.cons_inv
    cases d <;> simp only [blsD, reduceCtorEq] at h
    cases q : blsD ds with
    | none => rw [q] at h; cases h
    | some zs =>
      rw [q] at h
      cases h
      rw [blsD_of r2 q]
      cases r1
      rfl
  | [], _ :: _, _, _, r, _ => by have := r.lenL; simp at this
  | _ :: _, [], _, _, r, _ => by have := r.lenL; simp at this
def allD : List D → Option Nw
  | [.lst _ ds] => (blsD ds).map fun bs => .sc (.bl (bs.all id))
  | _ => none
def anyD : List D → Option Nw
  | [.lst _ ds] => (blsD ds).map fun bs => .sc (.bl (bs.any id))
  | _ => none
theorem cn_all (hc : X.calm = true) : CallN X (.builtin "all") allD := .of (cr_all hc) fun xs H Q ds n hl hw ho q => by
  unfold allD at ho
  split at ho
  · rename_i f ds
    obtain ⟨v, rfl⟩ := len1 hl
    cases hs : blsD ds with
    | none => rw [hs] at ho; cases ho
    | some ys =>
      rw [hs] at ho
      cases ho
      obtain ⟨a, zs, rfl, rd, r⟩ := Wr_lst (hw (v, .lst f ds) (by simp))
      obtain rfl := blsD_of r hs
      obtain ⟨v, hv, q⟩ := q
      cases hv
      exact ⟨a, ys, rfl, .inl rd, q⟩
  · cases ho
theorem cn_any (hc : X.calm = true) : CallN X (.builtin "any") anyD := .of (cr_any hc) fun xs H Q ds n hl hw ho q => by
  unfold anyD at ho
  split at ho
  · rename_i f ds
    obtain ⟨v, rfl⟩ := len1 hl
    cases hs : blsD ds with
    | none => rw [hs] at ho; cases ho
    | some ys =>
      rw [hs] at ho
      cases ho
      obtain ⟨a, zs, rfl, rd, r⟩ := Wr_lst (hw (v, .lst f ds) (by simp))
      obtain rfl := blsD_of r hs
      obtain ⟨v, hv, q⟩ := q
      cases hv
      exact ⟨a, ys, rfl, .inl rd, q⟩
  · cases ho
def absD : List D → Option Nw
  | [.int i] => some (.sc (.int (if i < 0 then -i else i)))
  | _ => none
theorem cn_abs : CallN X (.builtin "abs") absD := .of call_abs fun xs H Q ds n hl hw ho q => by
  unfold absD at ho
  split at ho
  · rename_i i
    cases ho
    obtain ⟨v, rfl⟩ := len1 hl
    cases Wr_int (hw (v, .int i) (by simp))
    obtain ⟨v, hv, q⟩ := q
    cases hv
    exact ⟨i, rfl, q⟩
  · cases ho
def strD : List D → Option Nw
  | [.int i] => if i.natAbs.log2 < 1920 then some (.sc (.str (toString i))) else none
  | [.str x] => some (.sc (.str x))
  | _ => none
theorem cn_str : CallN X (.type "str") strD := .of (L2.CallR.or call_str_int SkE.call_str_str) fun xs H Q ds n hl hw ho q => by
  unfold strD at ho
  split at ho
  · rename_i i
    split at ho
    · rename_i hz
      cases ho
      obtain ⟨v, rfl⟩ := len1 hl
      cases Wr_int (hw (v, .int i) (by simp))
      obtain ⟨v, hv, q⟩ := q
      cases hv
      exact .inl ⟨i, rfl, hz, q⟩
    · cases ho
  · rename_i i
    cases ho
    obtain ⟨v, rfl⟩ := len1 hl
    cases Wr_str (hw (v, .str i) (by simp))
    obtain ⟨v, hv, q⟩ := q
    cases hv
    exact .inr ⟨i, rfl, q⟩
  · cases ho
def listD : List D → Option Nw
  | [.lst _ ds] => if immL ds = true then some (.nl ds) else none
  | [.tup ds] => if immL ds = true then some (.nl ds) else none
  | _ => none
theorem cn_list : CallN X (.type "list") listD := .of call_list_of fun xs H Q ds n hl hw ho q => by
  unfold listD at ho
  split at ho
  · rename_i f ds
    split at ho
    · cases ho
      obtain ⟨v, rfl⟩ := len1 hl
      obtain ⟨a, zs, rfl, rd, r⟩ := Wr_lst (hw (v, .lst f ds) (by simp))
      exact ⟨a, zs, rfl, .inl (.inl rd), fun p hp => q.2 p _ hp r⟩
    · cases ho
  · rename_i ds
    split at ho
    · cases ho
      obtain ⟨v, rfl⟩ := len1 hl
      obtain ⟨a, zs, rfl, rd, r⟩ := Wr_tup (hw (v, .tup ds) (by simp))
      exact ⟨a, zs, rfl, .inr rd, fun p hp => q.2 p _ hp r⟩
    · cases ho
  · cases ho
end
end DG

set_option Elab.async false
set_option linter.all false
set_option maxHeartbeats 4000000
/-! DGq: displays of dicts. -/
namespace DG
open PySem PySem.Spec PyProof.Rows L2
set_option autoImplicit false
section
variable {X : Cx} {p : Par} {W : WX} {lk : List Addr} {L : Lk} {σ : L2.St} {H : Hp} {e : Env} {st : Stk} {ws : List Wk} {a b c : Expr} {pos : Pos} {f g h : M D}
def pairsM : List (M D × M D) → M (List (Key × D))
  | [] => .ret []
  | (fk, fv) :: r => (noexc fk).bind fun dk => match keyD dk with
    | some k => (noexc fv).bind fun d => (pairsM r).bind fun kvs => .ret ((k, d) :: kvs)
    | none => .bad
def dispM (prs : List (M D × M D)) : M D := (pairsM prs).bind fun kvs => if kvs.length ≤ 15 ∧ (kvs.map (·.1)).Nodup then .ret (.dk .own kvs) else .bad
theorem mergeK_nodup : ∀ {kvs acc : List (Key × V)}, ((acc ++ kvs).map (·.1)).Nodup → mergeK acc kvs = acc ++ kvs
  | [], acc, _ => by rw [List.append_nil]; rfl
  | kv :: r, acc, h => by
    have e : putK acc kv.1 kv.2 = acc ++ [kv] := by
      unfold putK
      rw [if_neg]
      intro z
      obtain ⟨x, hx, hk⟩ := List.any_eq_true.mp z
      rw [List.map_append] at h
      exact (List.nodup_append.mp h).2.2 x.1 (List.mem_map.mpr ⟨x, hx, rfl⟩) kv.1 (by simp) (of_decide_eq_true hk)
    show mergeK (putK acc kv.1 kv.2) r = _
    rw [e, mergeK_nodup (by rw [List.append_assoc]; exact h), List.append_assoc]
    rfl
theorem tPairs_of : ∀ {prs : List (M D × M D)} {H : Hp} {e : Env} {st : Stk} {R : List (V × V) → Hp → Prop}, Gd X p lk L σ H e st ws →
    (pairsM prs e).run (fun kvs e' => ∀ vs H', vs.length = kvs.length → Gd X p lk L σ H' e' (vs.zip (kvs.map (·.2)) ++ st) ws → R (((kvs.map (·.1)).zip vs).map fun q => (kV q.1, q.2)) H') (fun _ _ _ => False) →
    tPairs (prs.map fun q => (tW X p W0 q.1, tV X p W0 q.2)) σ H R
  | [], H, e, st, R, g, q => q [] H rfl g
  | (fk, fv) :: r, H, e, st, R, g, q => by
    refine ⟨lk, L, e, st, ws, g, ?_⟩
    have q1 := run_noexc (ex' := XW X p W0 lk L σ st) (run_bind (show ((noexc fk).bind _ e).run _ _ from q))
    refine Res.run_mono q1 (fun dk e1 q1 => ?_) fun _ _ _ z => z
    intro x H1 g1
    cases hk : keyD dk with
    | none => rw [hk] at q1; exact False.elim q1
    | some k =>
      rw [hk] at q1
      have hx : x = kV k := keyD_of (g1.wr List.mem_cons_self) hk
      refine ⟨lk, L, e1, st, ws, g1.dropW, ?_⟩
      have q2 := run_noexc (ex' := XW X p W0 lk L σ st) (run_bind q1)
      refine Res.run_mono q2 (fun d e2 q2 => ?_) fun _ _ _ z => z
      intro v H2 g2
      refine tPairs_of (R := fun ps H3 => R ((x, v) :: ps) H3) g2 (Res.run_mono (run_bind q2) (fun kvs e3 q3 => ?_) fun _ _ _ z => z)
      intro vs H3 hl g3
      rw [hx]
      exact q3 (v :: vs) H3 (by simp [hl]) (g3.perm (by rw [List.map_cons, List.zip_cons_cons]; exact List.perm_middle))
theorem pe_dispM {keys : List (Option Expr)} {values : List Expr} {prs : List (M D × M D)} (h : PPs X pos keys values (prs.map fun q => (tW X p W0 q.1, tV X p W0 q.2))) (hall : keys.all (·.isSome) = true) (hl : keys.length = values.length) (h0 : keys ≠ []) (h15 : keys.length ≤ 15) :
    PE X (.Dict keys values pos) (tV X p W (dispM prs)) :=
  PEmono (pe_disp h hall hl h0 h15) fun σ H Q ⟨lk, L, e, st, ws, g, q⟩ => fun D hD => by
    obtain ⟨g2, hh⟩ := g.hide (o := .dK []) hD trivial
    refine tPairs_of g2 ?_
    unfold dispM M.bind at q
    cases hp : pairsM prs e with
    | bad => rw [hp] at q; exact q
    | exc c fs e' =>
      exfalso
      have key : ∀ (prs : List (M DG.D × M DG.D)) (e : Env), ∀ c fs e', pairsM prs e ≠ .exc c fs e' := by
        intro prs
        induction prs with
        | nil => intro e c fs e' z; cases z
        | cons pr r ih =>
          intro e c fs e' z
          obtain ⟨fk, fv⟩ := pr
          unfold pairsM M.bind noexc at z
          cases h1 : fk e with
          | exc => rw [h1] at z; cases z
          | bad => rw [h1] at z; cases z
          | ok dk e1 =>
            rw [h1] at z
            dsimp only at z
            cases hk : keyD dk with
            | none => rw [hk] at z; cases z
            | some k =>
              rw [hk] at z
              dsimp only at z
              cases h2 : fv e1 with
              | exc => rw [h2] at z; cases z
              | bad => rw [h2] at z; cases z
              | ok d e2 =>
                rw [h2] at z
                dsimp only at z
                cases h3 : pairsM r e2 with
                | exc c' fs' e'' => exact ih e2 _ _ _ h3
                | bad => rw [h3] at z; cases z
                | ok => rw [h3] at z; cases z
      exact key prs e _ _ _ hp
    | ok kvs e' =>
      rw [hp] at q
      dsimp only at q
      by_cases hz : kvs.length ≤ 15 ∧ (kvs.map (·.1)).Nodup
      case neg => rw [if_neg hz] at q; exact False.elim q
      rw [if_pos hz] at q
      intro vs H2 hlv g3
      refine ⟨g3.hid, (kvs.map (·.1)).zip vs, rfl, by rw [List.length_zip, hlv, List.length_map]; omega, ?_⟩
      have hnd : (((kvs.map (·.1)).zip vs).map (·.1)).Nodup := by
        rw [List.map_fst_zip (by rw [hlv, List.length_map]; exact Nat.le_refl _)]
        exact hz.2
      have em : mergeK [] ((kvs.map (·.1)).zip vs) = (kvs.map (·.1)).zip vs := mergeK_nodup (acc := []) hnd
      rw [em]
      refine q _ _ (Gd.unhide (own := true) (g3.rehide (o' := .dK _) trivial) hh (.dk .own kvs) fun z G B kK kg hlk hG rS => ?_)
      refine Rp.dk (f := .own) hG hlk hz.2 ?_
      clear g3 q hG hnd hp h g2
      have : ∀ {kvs : List (Key × DG.D)} {vs : List V} {B : List Addr}, vs.length = kvs.length → RpS z G (vs.zip (kvs.map (·.2))) B → Rp z G (.k ((kvs.map (·.1)).zip vs) kvs) B := by
        intro kvs
        induction kvs with
        | nil => intro vs B hl rS; cases vs with
          | nil => cases rS; exact .knil
          | cons => simp at hl
        | cons kv r ih =>
          intro vs B hl rS
          cases vs with
          | nil => simp at hl
          | cons v vs =>
            rw [List.map_cons, List.zip_cons_cons] at rS
            cases rS with
            | cons r1 r2 => exact .kcons r1 (ih (by simpa using hl) r2)
      exact this hlv rS
def newDK : M D := .ret (.dk .own [])
theorem pe_newDK : PE X (.Dict [] [] pos) (tV X p W newDK) :=
  PEmono pe_dnewK fun σ H Q ⟨lk, L, e, st, ws, g, q⟩ a ha => q _ _ (Gd.alloc (front := []) g ha (.dK []) (.dk .own []) true fun z G B kK kg hlk hG k rS => by
    cases rS
    exact .dk (f := .own) hG hlk List.nodup_nil .knil)
def newDT : M D := .ret (.dt .own [])
theorem pe_newDT : PE X (.Dict [] [] pos) (tV X p W newDT) :=
  PEmono pe_dnewT fun σ H Q ⟨lk, L, e, st, ws, g, q⟩ a ha => q _ _ (Gd.alloc (front := []) g ha (.dT []) (.dt .own []) true fun z G B kK kg hlk hG k rS => by
    cases rS
    exact .dt (f := .own) hG hlk List.nodup_nil .tnil)
end
end DG

set_option Elab.async false
set_option linter.all false
set_option maxHeartbeats 4000000
/-! DGr: walks over texts, lists; the evaluator of expressions, and why it is right. -/
namespace DG
open PySem PySem.Spec PyProof.Rows L2
set_option autoImplicit false
section
variable {X : Cx} {p : Par} {W : WX} {lk : List Addr} {L : Lk} {σ : L2.St} {H : Hp} {e : Env} {st : Stk} {ws : List Wk} {a b c : Expr} {pos : Pos} {f g h : M D}
/-! ### walks -/
theorem PI.or {tg i : Expr} {t t' : TI} (h : PI X tg i t) (h' : PI X tg i t') : PI X tg i (fun σ H R => t σ H R ∨ t' σ H R) := ⟨fun pins s σ H R I q => q.elim (h.run pins s σ H R I) (h'.run pins s σ H R I)⟩
def chars (x : Str) : List D := x.cps.toList.map fun c => .str ⟨#[c]⟩
theorem itD_str {x : Str} : ItD X p lk L (Its x) (chars x) st := fun L' _ i σ H e front ws g => by
  unfold chars
  rw [List.getElem?_map, Array.getElem?_toList]
  cases hc : x.cps[i]? with
  | none => exact ⟨fun d hd => (by cases hd), fun _ => Array.getElem?_eq_none_iff.mp hc⟩
  | some c =>
    refine ⟨fun d hd => ?_, fun hd => (by cases hd)⟩
    cases hd
    refine ⟨(Array.getElem?_eq_some_iff.mp hc).1, fun y H' ⟨h1, c', h2, h3⟩ => ?_⟩
    subst h1 h3
    rw [hc] at h2
    cases h2
    exact g.push fun z G _ _ => .str _
/-- a list or a text is walked -/
def itL (io : Bool) (d : D) : M (List D) := match d with
  | .str x => .ret (chars x)
  | d => frzL io d
theorem pi_seqM {tg : Expr} {io : Bool} (hio : io = false → p.O = []) (ha : PE X a (tV X p W f)) : PI X tg a (tI X p W (f.bind (itL io))) :=
  PImono (PI.or (pi_str ha) (pi_lstM hio ha)) fun σ H R q => by
    obtain ⟨lk, L, e, st, ws, gd, q⟩ := q
    unfold M.bind at q
    cases hf : f e with
    | bad => rw [hf] at q; exact False.elim q
    | exc c fs e' =>
      rw [hf] at q
      refine .inl ⟨lk, L, e, st, ws, gd, ?_⟩
      rw [hf]; exact q
    | ok d e' =>
      rw [hf] at q
      cases d with
      | str x =>
        refine .inl ⟨lk, L, e, st, ws, gd, ?_⟩
        rw [hf]
        intro v H1 g1
        have hv : v = .str x := by
          obtain ⟨S, G, A, B, g⟩ := g1
          cases hs : g.stk with
          | cons r _ => cases r; rfl
        exact ⟨x, hv, q _ H1 [] g1.drop itD_str⟩
      | lst f' ds =>
        refine .inr ⟨lk, L, e, st, ws, gd, ?_⟩
        unfold M.bind
        rw [hf]; exact q
      | _ => exact False.elim q
/-! ### a name's data: what cannot change is copied, else it is moved -/
def slotX (i : Nat) : M D := fun e => match e[i]? with
  | some (some d) => if imm d then .ok d e else .ok d (e.set i none)
  | _ => .bad
theorem pe_slotX {i : Nat} {x : Str} {pos : Pos} (hN : X.N[i]? = some x) (hv : Vis X.env.scope x) (hd : (x == ("__debug__" : Str)) = false) (hcd : (x == ("__classdict__" : Str)) = false) : PE X (.Name x pos) (tV X p W (slotX i)) :=
  PEmono (pe_var hN hv hd hcd) fun σ H Q ⟨lk, L, e, st, ws, g, q⟩ => by
    unfold slotX at q
    cases he : e[i]? with
    | none => rw [he] at q; exact False.elim q
    | some o =>
      cases o with
      | none => rw [he] at q; exact False.elim q
      | some d =>
        rw [he] at q
        dsimp only at q
        by_cases hi : imm d = true
        · rw [if_pos hi] at q
          obtain ⟨v, h1, h2⟩ := g.slotW he
          rw [show lend d = d from mapF_imm _ d hi] at h2
          exact ⟨v, h1, q v H (h2.strong hi)⟩
        · rw [if_neg hi] at q
          obtain ⟨v, h1, h2⟩ := g.slotM he
          exact ⟨v, h1, q v H h2⟩
end
/-! ### what is compiled -/
/-- a piece of the text, names resolved -/
inductive CE where
  | bad | nm (i : Nat) | cN | cB (b : Bool) | cI (i : Int) | cT (x : Str) | ty (t : String)
  | bin (op : Operator) (a b : CE) | cmp (op : CmpOp) (a b : CE) | chn (o1 o2 : CmpOp) (a b c : CE)
  | nt (a : CE) | an (a b : CE) | ro (a b : CE) | ifx (t a b : CE)
  | call (f : Nat) (args : CE) | blt (id : Nat) (args : CE) | met (id : Nat) (o a : CE) | app (o a : CE)
  | lst (a : CE) | tup (a : CE) | sli (a lo hi : CE) | sub (a b : CE)
  | lc (own : List Nat) (tg it ts el : CE) | dnew | disp (prs : CE)
  | nil | cons (a r : CE) | pr (k v r : CE) | on | os (a : CE) | yes
  | rng1 (a : CE) | rng2 (a b : CE)
  | tgn (i : Nat)
  | nx | ex (a : CE) | ret (a : CE) | retN | brk | cnt | ite (t a b : CE) | set (i : Nat) (a : CE) | fr (tg it b : CE) | sq (a b : CE)
  deriving DecidableEq, Repr
structure Bun where
  W : M D := .bad
  V : M D := .bad
  T : M Bool := .bad
  I : M (List D) := .bad
  V0 : M D := .bad
  PL : M (Nat × Pth) := .bad
  AW : M (List D) := .bad
  AV : M (List D) := .bad
  P : List (M D × M D) := []
  O : M (Option Int) := .bad
  G : Option (D → Env → Option Env) := none
  S : M Fw := .bad
structure Cf where
  N : List Str
  nl : Nat
  fn : List Str
  cs : List (Str × CE)
  bl : List Str
structure Bk where
  sc : Scope
  fn : Str → Bool
def ixOf : List Str → Str → Option Nat
  | [], _ => none
  | y :: r, x => if y = x then some 0 else (ixOf r x).map (· + 1)
theorem ixOf_get : ∀ {N : List Str} {x : Str} {i : Nat}, ixOf N x = some i → N[i]? = some x
  | [], _, _, h => by cases h
  | y :: r, x, i, h => by
    unfold ixOf at h
    by_cases e : y = x
    · rw [if_pos e] at h; cases h; subst e; rfl
    · rw [if_neg e] at h
      cases q : ixOf r x with
      | none => rw [q] at h; cases h
      | some j =>
        rw [q] at h
        cases h
        have z : r[j]? = some x := ixOf_get q
        exact z
def visB (sc : Scope) (x : Str) : Bool := match sc.names.lookup x with
  | some .local => true | some .cell => true | some .free => true | _ => false
def locB (bk : Bk) (x : Str) : Bool := match bk.sc.names.lookup x with
  | some .local => true | some .cell => bk.fn x | _ => false
def glB (sc : Scope) (x : Str) : Bool := match sc.names.lookup x with
  | some .globalImplicit => true | _ => false
def nmB (x : Str) : Bool := !(x == ("__debug__" : Str)) && !(x == ("__classdict__" : Str)) && !(decide (x = "__name__"))
theorem visB_of {sc : Scope} {x : Str} (h : visB sc x = true) : Vis sc x := by
  unfold visB at h
  unfold L2.Vis
  split at h <;> first | (rename_i q; simp [q]) | cases h
theorem locB_of {bk : Bk} {x : Str} (h : locB bk x = true) : L2.Loc bk.sc x ∧ (bk.fn x = true ∨ bk.sc.names.lookup x = some .local) := by
  unfold locB at h
  unfold L2.Loc
  split at h
  · rename_i q; exact ⟨.inl q, .inr q⟩
  · rename_i q; exact ⟨.inr q, .inl h⟩
  · cases h
theorem nmB_of {x : Str} (h : nmB x = true) : (x == ("__debug__" : Str)) = false ∧ (x == ("__classdict__" : Str)) = false ∧ x ≠ "__name__" := by
  unfold nmB at h
  simp only [Bool.and_eq_true, Bool.not_eq_true', decide_eq_false_iff_not] at h
  exact ⟨h.1.1, h.1.2, h.2⟩
def noStar : Expr → Bool
  | .Starred _ _ => false
  | _ => true
theorem noStar_of {a : Expr} (h : noStar a = true) (es : List Expr) (env : PySem.Env) : starEach (a :: es) env = (false, eval a env) :: starEach es env := by
  cases a <;> first | rfl | cases h
theorem noStar_any : ∀ {es : List Expr} (h : es.all noStar = true) (pos : Pos) (env : PySem.Env), (backTo pos (starEach es env)).any (·.1) = false
  | [], _, _, _ => rfl
  | a :: es, h, pos, env => by
    rw [List.all_cons, Bool.and_eq_true] at h
    rw [noStar_of h.1]
    exact noStar_any h.2 pos env
theorem noStar_one {a : Expr} (h : noStar a = true) (env : PySem.Env) : starEach [a] env = [(false, eval a env)] := noStar_of h [] env
def plainIx : Expr → Bool
  | .Slice _ _ none _ => false
  | _ => true
theorem plainIx_of {b : Expr} (h : plainIx b = true) : PlainIx b := fun o i => by
  cases b <;> first | rfl | skip
  rename_i lo hi stp ps
  cases stp
  · cases h
  · rfl
end DG

set_option Elab.async false
set_option linter.all false
set_option maxHeartbeats 4000000
/-! DGs: from the text to compiled pieces; what these do. -/
namespace DG
open PySem PySem.Spec PyProof.Rows L2
set_option autoImplicit false
def opD : Operator → D → D → Option Nw
  | .Add => addD
  | .Sub => subD
  | .Mult => mulD
  | .FloorDiv => fdivD
  | .Mod => modD
  | _ => fun _ _ => none
def cmpD : CmpOp → D → D → Option Nw
  | .Eq => eqD
  | .NotEq => neD
  | .Lt => ltD
  | .LtE => leD
  | .Gt => gtD
  | .GtE => geD
  | .Is => isD
  | .IsNot => isnD
  | .In => inD
  | .NotIn => ninD
/-! ### what a piece does -/
def mkV (v : M D) : Bun := { W := v.bind fun d => .ret (lend d), V := v, T := (v.bind fun d => .ret (lend d)).bind truM, I := v.bind (itL false), V0 := v }
def mkW (w : M D) : Bun := { W := w, V := w.bind immM, T := w.bind truM, I := (w.bind immM).bind (itL false), V0 := w.bind immM }
def mkT (v : M D) (t : M Bool) : Bun := { W := v.bind fun d => .ret (lend d), V := v, T := t, I := v.bind (itL false), V0 := v }
def bltM (id : Nat) (r : M (List D)) : M D := match id with
  | 0 => callM lenD r
  | 1 => callM isiD r
  | 2 => callM minD r
  | 3 => callM maxD r
  | 4 => callM allD r
  | 5 => callM anyD r
  | 6 => callM absD r
  | 7 => callM strD r
  | 8 => callM listD r
  | _ => r.bind fun _ => .bad
def metM (id : Nat) (o a : M D) : M D := match id with
  | 0 => smM1 joinD o a
  | 1 => smM1 splitD o a
  | 2 => smM1 startsD o a
  | _ => o.bind fun x => if isStr x then a.bind fun _ => .bad else .bad
structure Sm where
  nl : Nat
  fs : List (Nat × (List D → FRes))
def Sm.fn (s : Sm) (f : Nat) (r : M (List D)) : M D := match s.fs[f]? with
  | some (n, F) => callF n F r
  | none => r.bind fun _ => .bad
def lcG (own : List Nat) (g : Option (D → Env → Option Env)) (it : M (List D)) (t : M Bool) (v : M D) : M D := match g with
  | some ft => lcM own it ft t v
  | none => .bad
def frG (g : Option (D → Env → Option Env)) (it : M (List D)) (b : M Fw) : M Fw := match g with
  | some ft => it.bind (loopM ft b)
  | none => .bad
def setM (i : Nat) (v : M D) : M Fw := v.bind fun d => (liftT (putE false i) d).bind fun _ => .ret .next
def iteM (t : M Bool) (a b : M Fw) : M Fw := t.bind fun k => if k then a else b
def sem (s : Sm) : CE → Bun
  | .bad => {}
  | .nm i => { W := slotM i, V := slotX i, T := (slotM i).bind truM, I := (slotS false i).bind (itL false), V0 := slotX i, PL := slotP s.nl i }
  | .cN => mkW (.ret .non)
  | .cB b => mkW (.ret (.bl b))
  | .cI i => mkW (.ret (.int i))
  | .cT x => mkW (.ret (.str x))
  | .ty t => mkW (.ret (.ty t))
  | .bin op a b => mkV (binN (opD op) (sem s a).W (sem s b).W)
  | .cmp op a b => mkT (binN (cmpD op) (sem s a).W (sem s b).W) ((binN (cmpD op) (sem s a).W (sem s b).W).bind blM)
  | .chn o1 o2 a b c => mkT (chainM (cmpD o1) (cmpD o2) (sem s a).W (sem s b).W (sem s c).W) ((chainM (cmpD o1) (cmpD o2) (sem s a).W (sem s b).W (sem s c).W).bind blM)
  | .nt a => mkT (notV (sem s a).W) ((sem s a).T.bind fun b => .ret (!b))
  | .an a b => mkT (andV (sem s a).W (sem s b).V) (andT (sem s a).T (sem s b).T)
  | .ro a b => mkT (orV (sem s a).W (sem s b).V) (orT (sem s a).T (sem s b).T)
  | .ifx t a b => { W := ifV (sem s t).T (sem s a).W (sem s b).W, V := ifV (sem s t).T (sem s a).V (sem s b).V, I := (ifV (sem s t).T (sem s a).V (sem s b).V).bind (itL false), V0 := ifV (sem s t).T (sem s a).V (sem s b).V }
  | .call f args => mkV (s.fn f (sem s args).AW)
  | .blt id args => mkV (bltM id (sem s args).AW)
  | .met id o a => mkV (metM id (sem s o).W (sem s a).W)
  | .app o a => { V0 := appM (sem s o).PL (sem s a).V }
  | .lst a => mkV (lstM (sem s a).AV)
  | .tup a => mkV (tupM (sem s a).AV)
  | .sli a lo hi => mkV (sliM (sem s a).W (sem s lo).O (sem s hi).O)
  | .sub a b => mkW (subM (sem s a).W (sem s b).W)
  | .lc own tg it ts el => mkV (lcG own (sem s tg).G (sem s it).I (sem s ts).T (sem s el).V)
  | .dnew => mkV newDK
  | .disp prs => mkV (dispM (sem s prs).P)
  | .nil => { AW := .ret [], AV := .ret [] }
  | .cons a r => { AW := consM (sem s a).W (sem s r).AW, AV := consM (sem s a).V (sem s r).AV }
  | .pr k v r => { P := ((sem s k).W, (sem s v).V) :: (sem s r).P }
  | .on => { O := .ret none }
  | .os a => { O := (sem s a).W.bind intM }
  | .yes => { T := .ret true }
  | .rng1 a => { I := (sem s a).W.bind rng1 }
  | .rng2 a b => { I := (sem s a).W.bind fun x => (sem s b).W.bind fun y => rng2 x y }
  | .tgn i => { G := some (putE false i) }
  | .nx => { S := .ret .next }
  | .ex a => { S := (sem s a).V0.bind fun _ => .ret .next }
  | .ret a => { S := (sem s a).V.bind fun d => .ret (.ret d) }
  | .retN => { S := .ret (.ret .non) }
  | .brk => { S := .ret .brk }
  | .cnt => { S := .ret .cont }
  | .ite t a b => { S := iteM (sem s t).T (sem s a).S (sem s b).S }
  | .set i a => { S := setM i (sem s a).V0 }
  | .fr tg it b => { S := frG (sem s tg).G (sem s it).I (sem s b).S }
  | .sq a b => { S := seqM (sem s a).S (sem s b).S }
/-! ### from the text -/
def baseOk : Expr → Bool
  | .Call (.Name _ _) [] [] _ => false
  | _ => true
theorem baseOk_of {o : Expr} (h : baseOk o = true) (m : Str) (env : PySem.Env) : attributeBase o m env (eval o env) = eval o env := by
  unfold attributeBase
  split
  · rename_i id p pos
    simp [baseOk] at h
  · rfl
def bltIs (cf : Cf) (bk : Bk) (x : Str) : Bool := glB bk.sc x && decide (x ∈ cf.bl)
def isSet : Expr → Bool
  | .Set _ _ _ => true
  | _ => false
def isComp : Expr → Bool
  | .ListComp _ _ _ _ => true | .SetComp _ _ _ _ => true | .DictComp _ _ _ _ _ => true
  | _ => false
def relS (scope sc : Scope) : Scope := { scope with names := scope.names.map fun (n, k) => if (k == .free && sc.kind == .function && sc.names.lookup n == some .cell) then (n, .cell) else (n, k) }
def inBk (scope : Scope) (bk : Bk) : Bk := ⟨relS scope bk.sc, fun x => scope.names.lookup x == some .cell⟩
def ownOf (N : List Str) (scope : Scope) : List (Str × Nat) := scope.names.filterMap fun (x, k) => if (k == .local || k == .cell) then (ixOf N x).map (fun i => (x, i)) else none
def swapB (bk : Bk) (x : Str) (ps vs : Pos) (scope : Scope) : Bool := (match bk.sc.kind with | .function => true | _ => false) && (match bk.sc.names.lookup x with | some .local => true | _ => false) && (ps.line == vs.line) && !(scope.names.any fun (n, k) => n == x && (k == .local || k == .cell))
def isCst : CE → Bool
  | .cN => true | .cB _ => true | .cI _ => true | .cT _ => true
  | _ => false
def tyC (x : Str) : CE := if x = "int" then .ty "int" else if x = "str" then .ty "str" else if x = "list" then .ty "list" else if x = "tuple" then .ty "tuple" else if x = "dict" then .ty "dict" else if x = "bool" then .ty "bool" else .bad
def bltC (x : Str) (r : CE) : CE := if x = "len" then .blt 0 r else if x = "isinstance" then .blt 1 r else if x = "min" then .blt 2 r else if x = "max" then .blt 3 r else if x = "all" then .blt 4 r else
  if x = "any" then .blt 5 r else if x = "abs" then .blt 6 r else if x = "str" then .blt 7 r else if x = "list" then .blt 8 r else .bad
def cName (cf : Cf) (bk : Bk) (x : Str) : CE := if nmB x = true then
    (if visB bk.sc x = true then (match ixOf cf.N x with
      | some i => .nm i
      | none => .bad)
    else if glB bk.sc x = true then (match cf.cs.lookup x with
      | some c => if isCst c = true then c else .bad
      | none => if x ∈ cf.bl then tyC x else .bad) else .bad) else .bad
def cCst (c : Const) : CE := match c with
  | .none => .cN
  | .bool k => .cB k
  | .int i => .cI i
  | .str x => .cT x
  | _ => .bad
def cA (f : Expr → CE) : List Expr → CE
  | [] => .nil
  | a :: es => .cons (f a) (cA f es)
def cBool (g : CE → CE → CE) (f : Expr → CE) : List Expr → CE
  | [] => .bad
  | a :: r => match r with
    | [] => f a
    | _ :: _ => g (f a) (cBool g f r)
def cO (f : Expr → CE) : Option Expr → CE
  | none => .on
  | some e => .os (f e)
def cPrs (f : Expr → CE) : List (Option Expr) → List Expr → Option CE
  | [], [] => some .nil
  | some k :: ks, x :: vs => (cPrs f ks vs).map fun r => .pr (f k) (f x) r
  | _, _ => none
def cIt (cf : Cf) (f : Expr → CE) (bk : Bk) (e : Expr) : CE := match e with
  | .Call (.Name x _) [a] [] _ => if x = "range" ∧ bltIs cf bk x = true ∧ noStar a = true then .rng1 (f a) else f e
  | .Call (.Name x _) [a, b] [] _ => if x = "range" ∧ bltIs cf bk x = true ∧ noStar a = true ∧ noStar b = true then .rng2 (f a) (f b) else f e
  | e => f e
/-- a comprehension's target; a loop's -/
def cTgO (cf : Cf) (bk : Bk) (own : List Nat) (e : Expr) : CE := match e with
  | .Name x _ => if locB bk x = true then (match ixOf cf.N x with
      | some i => if cf.nl ≤ i ∧ i ∈ own then .tgn i else .bad
      | none => .bad) else .bad
  | _ => .bad
def cTg (cf : Cf) (bk : Bk) (e : Expr) : CE := match e with
  | .Name x _ => if locB bk x = true then (match ixOf cf.N x with
      | some i => .tgn i
      | none => .bad) else .bad
  | _ => .bad
def cLc (cf : Cf) (f : Bk → Expr → CE) (bk : Bk) (elt tg iter : Expr) (ifs : List Expr) (scope : Scope) : CE :=
  if blkC cf.N bk.sc scope (ownOf cf.N scope) = true ∧ ((ownOf cf.N scope).map (·.2)).all (fun i => decide (cf.nl ≤ i)) = true ∧ isSet iter = false then
    .lc ((ownOf cf.N scope).map (·.2)) (cTgO cf (inBk scope bk) ((ownOf cf.N scope).map (·.2)) tg) (cIt cf (f bk) bk iter) (match ifs with
      | [] => .yes
      | [c] => f (inBk scope bk) c
      | _ => .bad) (f (inBk scope bk) elt)
  else .bad
def cCall (cf : Cf) (f : Bk → Expr → CE) (bk : Bk) (g : Expr) (args : List Expr) (kws : List Keyword) (pos : Pos) : CE := match g, kws with
  | .Name x _, [] => if nmB x = true ∧ glB bk.sc x = true ∧ args.all noStar = true then (match ixOf cf.fn x with
      | some i => .call i (cA (f bk) args)
      | none => if x ∈ cf.bl ∧ args ≠ [] then bltC x (cA (f bk) args) else .bad) else .bad
  | .Attribute o m apos, [] => if baseOk o = true ∧ (apos.endLine == pos.line) = true then (match args with
      | [a] => if noStar a = true then (if m = "join" then .met 0 (f bk o) (f bk a) else if m = "split" then .met 1 (f bk o) (f bk a) else if m = "startswith" then .met 2 (f bk o) (f bk a) else if m = "append" then .app (f bk o) (f bk a) else .bad) else .bad
      | _ => .bad) else .bad
  | _, _ => .bad
def cE (cf : Cf) : Nat → Bk → Expr → CE
  | 0, _, _ => .bad
  | n + 1, bk, e => match e with
    | .Name x _ => cName cf bk x
    | .Constant k _ _ => cCst k
    | .IfExp c a b _ => .ifx (cE cf n bk c) (cE cf n bk a) (cE cf n bk b)
    | .Subscript a (.Slice lo hi none _) _ => .sli (cE cf n bk a) (cO (cE cf n bk) lo) (cO (cE cf n bk) hi)
    | .Subscript a i _ => if plainIx i = true then .sub (cE cf n bk a) (cE cf n bk i) else .bad
    | .BinOp a op b _ => .bin op (cE cf n bk a) (cE cf n bk b)
    | .UnaryOp .Not a _ => .nt (cE cf n bk a)
    | .BoolOp op vs _ => if 2 ≤ vs.length then (match op with
        | .And => cBool .an (cE cf n bk) vs
        | .Or => cBool .ro (cE cf n bk) vs) else .bad
    | .Compare a [op] [b] _ => if behindInMarks op b = false then .cmp op (cE cf n bk a) (cE cf n bk b) else .bad
    | .Compare a [op, op'] [b, c] _ => if lastMarks [op, op'] [b, c] = false then .chn op op' (cE cf n bk a) (cE cf n bk b) (cE cf n bk c) else .bad
    | .Call f args kws pos => cCall cf (cE cf n) bk f args kws pos
    | .List es _ => if es.all noStar = true then .lst (cA (cE cf n bk) es) else .bad
    | .Tuple es _ _ => if es.all noStar = true then .tup (cA (cE cf n bk) es) else .bad
    | .ListComp elt [⟨tg, iter, ifs, as⟩] scope _ => if as = 0 then cLc cf (cE cf n) bk elt tg iter ifs scope else .bad
    | .Dict ks vs _ => if ks = [] ∧ vs = [] then .dnew else if ks.length = vs.length ∧ ks.length ≤ 15 then (match cPrs (cE cf n bk) ks vs with
        | some prs => .disp prs
        | none => .bad) else .bad
    | _ => .bad
def cSs (cf : Cf) (bk : Bk) : Nat → List Stmt → CE
  | 0, _ => .bad
  | n + 1, ss => match ss with
    | [] => .nx
    | s :: rest =>
      let f : CE := match s with
        | .Expr (.Constant (.str _) _ _) _ => .nx
        | .Expr e _ => if isComp e = false then .ex (cE cf n bk e) else .bad
        | .Return (some e) _ => .ret (cE cf n bk e)
        | .Return none _ => .retN
        | .Pass _ => .nx
        | .Break _ => .brk
        | .Continue _ => .cnt
        | .If c s1 s2 _ => .ite (cE cf n bk c) (cSs cf bk n s1) (cSs cf bk n s2)
        | .Assign [.Name x ps] e _ => if locB bk x = true then (match ixOf cf.N x with
            | some i => (match e with
              | .ListComp elt [⟨tg, iter, ifs, as⟩] scope cp => if as = 0 ∧ swapB bk x ps cp scope = true then .set i (cLc cf (cE cf n) bk elt tg iter ifs scope) else .bad
              | e => if isComp e = false then .set i (cE cf n bk e) else .bad)
            | none => .bad) else .bad
        | .For tg iter body [] _ => if isSet iter = false then .fr (cTg cf bk tg) (cIt cf (cE cf n bk) bk iter) (cSs cf bk n body) else .bad
        | _ => .bad
      match rest with
      | [] => f
      | _ :: _ => .sq f (cSs cf bk n rest)
end DG

set_option Elab.async false
set_option linter.all false
set_option maxHeartbeats 4000000
/-! DGt: compiled expressions are right. -/
namespace DG
open PySem PySem.Spec PyProof.Rows L2
set_option autoImplicit false
structure GOk (X : Cx) (k : Nat) (cf : Cf) (s : Sm) : Prop where
  fn : ∀ (i : Nat) (x : Str), cf.fn[i]? = some x → ∃ (n : Nat) (F : List D → FRes), s.fs[i]? = some (n, F) ∧ ∃ fa fd ps, FnOk X.prog X.w X.K X.mg X.base (L2.CX X.prog X.w) k fa fd ps (spF X.K X.mg n F) ∧ X.mg x = some (.ref fa) ∧ PySem.W.keepIn X.K (.ref fa) = true ∧ Binds X.K fd ps []
  cst : ∀ x c, cf.cs.lookup x = some c → ∃ v u, (match c with | .cN => v = V.non | .cB b => v = V.bl b | .cI i => v = V.int i | .cT z => v = V.str z | _ => False) ∧ X.mg x = some u ∧ RelV v u
  blt : ∀ x ∈ cf.bl, X.mg x = none
structure EC (cf : Cf) (s : Sm) (bk : Bk) (X : Cx) (p : Par) (W : WX) : Prop where
  N : X.N = cf.N
  nd : cf.N.Nodup
  nl0 : 0 < cf.nl
  nl : p.nl = cf.nl
  snl : s.nl = cf.nl
  sc : X.env.scope = bk.sc
  fn : X.fn = bk.fn
  calm : X.calm = true
  O : p.O = []
  io : p.io = none
  tk : Takes X W
  gl : ∃ k, Room k X.A ∧ GOk X k cf s
theorem EC.units {cf : Cf} {s : Sm} {bk : Bk} {X : Cx} {p : Par} {W : WX} (h : EC cf s bk X p W) : X.A.units + 65 < cLine := by
  obtain ⟨k, r, _⟩ := h.gl
  have := r.un
  omega
theorem EC.gk {cf : Cf} {s : Sm} {bk : Bk} {X : Cx} {p : Par} {W : WX} (h : EC cf s bk X p W) {x : Str} (g : glB bk.sc x = true) : Gl X x := by
  unfold glB at g
  show X.env.scope.names.lookup x = _
  rw [h.sc]
  split at g
  · assumption
  · cases g
theorem EC.w0 {cf : Cf} {s : Sm} {bk : Bk} {X : Cx} {p : Par} {W : WX} (E : EC cf s bk X p W) : EC cf s bk X p W0 := ⟨E.N, E.nd, E.nl0, E.nl, E.snl, E.sc, E.fn, E.calm, E.O, E.io, fun u s' ⟨a, B, sI, pins, σ, H, cls, d, e, I, nb, up, sky, na, os, ag, w⟩ => w.elim, E.gl⟩
theorem EC.blk {cf : Cf} {sm : Sm} {bk : Bk} {X : Cx} {p : Par} {W : WX} (E : EC cf sm bk X p W) (scope : Scope) (s : Shared) (H : Hp) (C : Addr) (cl : List (Str × Addr)) (fp : List Addr) : EC cf sm (inBk scope bk) (X.blk s H scope (compEnvC scope cl C X.env) fp) p W0 := by
  refine ⟨E.N, E.nd, E.nl0, E.nl, E.snl, ?_, rfl, E.calm, E.O, E.io, fun u s' ⟨a, B, sI, pins, σ, H, cls, d, e, I, nb, up, sky, na, os, ag, w⟩ => w.elim, ?_⟩
  · show relabel scope X.env = relS scope bk.sc
    unfold relabel relS PySem.Env.kindOf
    rw [E.sc]
  · obtain ⟨k, h1, h2⟩ := E.gl
    exact ⟨k, h1, h2.fn, h2.cst, h2.blt⟩
/-- a compiled expression is right -/
structure BOk (X : Cx) (p : Par) (Wx : WX) (e : Expr) (b : Bun) : Prop where
  W : PE X e (tW X p Wx b.W)
  V : PE X e (tV X p Wx b.V)
  T : PT X e (tT X p Wx b.T)
  I : ∀ tg, PI X tg e (tI X p Wx b.I)
  V0 : PE X e (tV0 X p Wx b.V0)
  PL : PE X e (tP X p Wx b.PL)
def EOk (cf : Cf) (s : Sm) (f : Bk → Expr → CE) : Prop := ∀ ⦃bk X p W⦄, EC cf s bk X p W → ∀ e, BOk X p W e (sem s (f bk e))
section
variable {X : Cx} {p : Par} {W : WX} {cf : Cf} {s : Sm} {bk : Bk} {a b c : Expr} {pos : Pos} {f : Bk → Expr → CE}
theorem pe_badW : PE X a (tW X p W .bad) := ⟨fun pins s σ H Q I ⟨_, _, _, _, _, _, q⟩ => False.elim q⟩
theorem pe_badV : PE X a (tV X p W .bad) := ⟨fun pins s σ H Q I ⟨_, _, _, _, _, _, q⟩ => False.elim q⟩
theorem pe_bad0 : PE X a (tV0 X p W .bad) := ⟨fun pins s σ H Q I ⟨_, _, _, _, _, q⟩ => False.elim q⟩
theorem pe_badP : PE X a (tP X p W .bad) := ⟨fun pins s σ H Q I ⟨_, _, _, _, _, _, q⟩ => False.elim q⟩
theorem pt_badT : PT X a (tT X p W .bad) := ⟨fun pins s σ H Q I ⟨_, _, _, _, _, _, q⟩ => False.elim q⟩
theorem pi_badI {tg : Expr} : PI X tg a (tI X p W .bad) := ⟨fun pins s σ H Q I ⟨_, _, _, _, _, _, q⟩ => False.elim q⟩
theorem BOk.bad : BOk X p W a (sem s .bad) := ⟨pe_badW, pe_badV, pt_badT, fun _ => pi_badI, pe_bad0, pe_badP⟩
theorem BOk.bad' : BOk X p W a {} := ⟨pe_badW, pe_badV, pt_badT, fun _ => pi_badI, pe_bad0, pe_badP⟩
def plainT (a : Expr) : Prop := ∀ (env : PySem.Env) whole, isTrue a env whole = (do let v ← whole; standAt a.pos; holding [v] (truthy v))
theorem BOk.v (E : EC cf s bk X p W) {v : M D} (ht : plainT a) (h : PE X a (tV X p W v)) : BOk X p W a (mkV v) := ⟨pe_weak h, h, pt_tru (pe_weak h) (ht _), fun tg => pi_seqM (fun _ => E.O) h, pe_zero h, pe_badP⟩
theorem BOk.w (E : EC cf s bk X p W) {w : M D} (ht : plainT a) (h : PE X a (tW X p W w)) : BOk X p W a (mkW w) := ⟨h, pe_strong h, pt_tru h (ht _), fun tg => pi_seqM (fun _ => E.O) (pe_strong h), pe_zero (pe_strong h), pe_badP⟩
theorem BOk.t (E : EC cf s bk X p W) {v : M D} {t : M Bool} (h : PE X a (tV X p W v)) (ht : PT X a (tT X p W t)) : BOk X p W a (mkT v t) := ⟨pe_weak h, h, ht, fun tg => pi_seqM (fun _ => E.O) h, pe_zero h, pe_badP⟩
theorem on_none {F : Value → Value → Sem Value} : OpN X F (fun _ _ => none) := fun pins s σ H x y v u Q I rx ry ⟨_, dx, dy, n, w1, w2, ho, q⟩ => by cases ho
theorem on_op (op : Operator) : OpN X (binaryOp op) (opD op) := by
  cases op <;> first | exact on_add | exact on_sub | exact on_mul | exact on_fdiv | exact on_mod | exact on_none
theorem on_cmp (hu : X.A.units + 65 < cLine) (op : CmpOp) : OpN X (compareOp op) (cmpD op) := by
  cases op
  · exact on_eq (by omega)
  · exact on_ne (by omega)
  · exact on_lt
  · exact on_le
  · exact on_gt
  · exact on_ge
  · exact on_is
  · exact on_isn
  · exact on_in hu
  · exact on_nin hu
theorem ok_name (E : EC cf s bk X p W) (x : Str) : BOk X p W (.Name x pos) (sem s (cName cf bk x)) := by
  have pl : plainT (.Name x pos) := fun _ _ => rfl
  unfold cName
  by_cases h1 : nmB x = true
  case neg => rw [if_neg h1]; exact .bad
  rw [if_pos h1]
  obtain ⟨n1, n2, n3⟩ := nmB_of h1
  by_cases h2 : visB bk.sc x = true
  · rw [if_pos h2]
    cases hi : ixOf cf.N x with
    | none => exact .bad
    | some i =>
      have hN : X.N[i]? = some x := by rw [E.N]; exact ixOf_get hi
      have hv : Vis X.env.scope x := by rw [E.sc]; exact visB_of h2
      have w := pe_slotW (p := p) (W := W) (pos := pos) hN hv n1 n2
      have v := pe_slotX (p := p) (W := W) (pos := pos) hN hv n1 n2
      refine ⟨w, v, pt_tru w (pl _), fun tg => pi_seqM (fun _ => E.O) (pe_slotS (fun _ => E.O) hN hv n1 n2), pe_zero v, ?_⟩
      show PE X _ (tP X p W (slotP s.nl i))
      rw [E.snl, ← E.nl]
      exact pe_slotP hN hv n1 n2
  · rw [if_neg h2]
    by_cases h3 : glB bk.sc x = true
    case neg => rw [if_neg h3]; exact .bad
    rw [if_pos h3]
    obtain ⟨k, _, G⟩ := E.gl
    cases hc : cf.cs.lookup x with
    | some c =>
      dsimp only
      by_cases hz : isCst c = true
      case neg => rw [if_neg hz]; exact .bad
      rw [if_pos hz]
      obtain ⟨v, u, e1, e2, e3⟩ := G.cst x c hc
      have key : ∀ d : D, vOf d = some v → BOk X p W (.Name x pos) (mkW (.ret d)) := fun d hd => .w E pl (pe_cst (pe_glob (E.gk h3) e2 e3 n1) hd)
      cases c <;> first | (dsimp only at e1; subst e1; exact key _ rfl) | exact absurd hz Bool.false_ne_true
    | none =>
      dsimp only
      by_cases hz : x ∈ cf.bl
      case neg => rw [if_neg hz]; exact .bad
      rw [if_pos hz]
      have hm := G.blt x hz
      have key : ∀ T : String, bootBuiltins x = some (.type T) → BOk X p W (.Name x pos) (sem s (.ty T)) := fun T hb => .w E pl (pe_cst (pe_bltn (v := .ty T) (E.gk h3) hm hb rfl n3 n1) rfl)
      unfold tyC
      split
      · rename_i e; subst e; exact key "int" rfl
      split
      · rename_i e; subst e; exact key "str" rfl
      split
      · rename_i e; subst e; exact key "list" rfl
      split
      · rename_i e; subst e; exact key "tuple" rfl
      split
      · rename_i e; subst e; exact key "dict" rfl
      split
      · rename_i e; subst e; exact key "bool" rfl
      exact .bad
theorem ok_cst (E : EC cf s bk X p W) (k : Const) {j : Nat} : BOk X p W (.Constant k j pos) (sem s (cCst k)) := by
  have pl : plainT (.Constant k j pos) := fun _ _ => rfl
  cases k <;> first | exact .bad | exact .w E pl (pe_cst pe_non rfl) | exact .w E pl (pe_cst pe_bl rfl) | exact .w E pl (pe_cst pe_int rfl) | exact .w E pl (pe_cst pe_str rfl)
theorem ok_AW (O : EOk cf s f) (E : EC cf s bk X p W) : ∀ es : List Expr, es.all noStar = true → PA X es (tAW X p W (sem s (cA (f bk) es)).AW)
  | [], _ => pa_nilW
  | a :: es, h => by
    rw [List.all_cons, Bool.and_eq_true] at h
    exact pa_consW (O E a).W (ok_AW O E es h.2) (noStar_of h.1 es _)
theorem ok_AV (O : EOk cf s f) (E : EC cf s bk X p W) : ∀ es : List Expr, es.all noStar = true → PA X es (tAV X p W (sem s (cA (f bk) es)).AV)
  | [], _ => pa_nilV
  | a :: es, h => by
    rw [List.all_cons, Bool.and_eq_true] at h
    exact pa_consV (O E a).V (ok_AV O E es h.2) (noStar_of h.1 es _)
theorem ok_andT (O : EOk cf s f) (E : EC cf s bk X p W) : ∀ es : List Expr, PW X (.BoolOp .And es pos) (tT X p W (sem s (cBool .an (f bk) es)).T)
  | [] => ⟨fun wh pins s σ H Q I ⟨_, _, _, _, _, _, q⟩ => False.elim q⟩
  | [a] => pw_and1 (O E a).T
  | a :: b :: es => pw_andM (O E a).T (ok_andT O E (b :: es))
theorem ok_orT (O : EOk cf s f) (E : EC cf s bk X p W) : ∀ es : List Expr, PW X (.BoolOp .Or es pos) (tT X p W (sem s (cBool .ro (f bk) es)).T)
  | [] => ⟨fun wh pins s σ H Q I ⟨_, _, _, _, _, _, q⟩ => False.elim q⟩
  | [a] => pw_or1 (O E a).T
  | a :: b :: es => pw_orM (O E a).T (ok_orT O E (b :: es))
theorem ok_andV (O : EOk cf s f) (E : EC cf s bk X p W) : ∀ es : List Expr, PE X (.BoolOp .And es pos) (tV X p W (sem s (cBool .an (f bk) es)).V)
  | [] => pe_badV
  | [a] => pe_one (O E a).V
  | a :: b :: es => pe_andV (O E a).W (ok_andV O E (b :: es))
theorem ok_orV (O : EOk cf s f) (E : EC cf s bk X p W) : ∀ es : List Expr, PE X (.BoolOp .Or es pos) (tV X p W (sem s (cBool .ro (f bk) es)).V)
  | [] => pe_badV
  | [a] => pe_one (O E a).V
  | a :: b :: es => pe_orV (O E a).W (ok_orV O E (b :: es))
theorem ok_O (O : EOk cf s f) (E : EC cf s bk X p W) : ∀ e : Option Expr, PO X e (tO X p W (sem s (cO (f bk) e)).O)
  | none => po_noneM
  | some e => po_someM (O E e).W
theorem bltIs_of (E : EC cf s bk X p W) {x : Str} (h : bltIs cf bk x = true) : Gl X x ∧ X.mg x = none := by
  unfold bltIs at h
  rw [Bool.and_eq_true] at h
  obtain ⟨k, _, G⟩ := E.gl
  exact ⟨E.gk h.1, G.blt x (of_decide_eq_true h.2)⟩
theorem ok_It (O : EOk cf s f) (E : EC cf s bk X p W) (tg e : Expr) : PI X tg e (tI X p W (sem s (cIt cf (f bk) bk e)).I) := by
  unfold cIt
  split
  · split
    · rename_i h
      obtain ⟨rfl, h2, h3⟩ := h
      obtain ⟨g1, g2⟩ := bltIs_of E h2
      exact pi_rng1 g1 g2 (O E _).W (noStar_one h3 _)
    · exact (O E _).I tg
  · split
    · rename_i h
      obtain ⟨rfl, h2, h3, h4⟩ := h
      obtain ⟨g1, g2⟩ := bltIs_of E h2
      exact pi_rng2 g1 g2 (O E _).W (O E _).W (by rw [noStar_of h3, noStar_one h4]) (noStar_one h4 _)
    · exact (O E _).I tg
  · exact (O E _).I tg
theorem folded_of {e : Expr} (h : isSet e = false) (env : PySem.Env) (x : Value) : foldedSetIterable e env x = pure x := by
  cases e <;> first | rfl | cases h
theorem cTgO_of (E : EC cf s bk X p W) {own : List Nat} {tg : Expr} {ft : D → Env → Option Env} (h : (sem s (cTgO cf bk own tg)).G = some ft) : PG X tg (tGo X p own ft) := by
  unfold cTgO at h
  split at h
  · rename_i x p'
    split at h
    · rename_i h1
      split at h
      · rename_i i hi
        split at h
        · rename_i h2
          cases h
          obtain ⟨l1, l2⟩ := locB_of h1
          exact pg_nameO (fun _ => E.io) (by rw [E.N]; exact E.nd) (by rw [E.N]; exact ixOf_get hi) (by rw [E.sc]; exact l1) (by rw [E.fn, E.sc]; exact l2) (by rw [E.nl]; exact h2.1) h2.2
        · cases h
      · cases h
    · cases h
  · cases h
theorem cTg_of (E : EC cf s bk X p W) {tg : Expr} {ft : D → Env → Option Env} (h : (sem s (cTg cf bk tg)).G = some ft) : PG X tg (tG0 X p ft) := by
  unfold cTg at h
  split at h
  · split at h
    · rename_i h1
      split at h
      · rename_i i hi
        cases h
        obtain ⟨l1, l2⟩ := locB_of h1
        exact pg_name0 (fun _ => E.io) (by rw [E.N]; exact E.nd) (by rw [E.N]; exact ixOf_get hi) (by rw [E.sc]; exact l1) (by rw [E.fn, E.sc]; exact l2)
      · cases h
    · cases h
  · cases h
theorem pts_nilM : PTs X [] (tT X p W (.ret true)) := ⟨fun pins s σ H Q I ⟨lk, L, e, st, ws, g, q⟩ => pts_nil.run pins s σ H Q I (q H g)⟩
theorem pts_badM {ifs : List Expr} : PTs X ifs (tT X p W .bad) := ⟨fun pins s σ H Q I ⟨_, _, _, _, _, _, q⟩ => False.elim q⟩
theorem ok_ifs (O : EOk cf s f) (E : EC cf s bk X p W) (ifs : List Expr) : PTs X ifs (tT X p W (sem s (match ifs with
      | [] => .yes
      | [c] => f bk c
      | _ => .bad)).T) := by
  split
  · exact pts_nilM
  · exact pts_one (O E _).T
  · exact pts_badM
theorem ok_Lc (O : EOk cf s f) (E : EC cf s bk X p W) (elt tg iter : Expr) (ifs : List Expr) (scope : Scope) : BOk X p W (.ListComp elt [⟨tg, iter, ifs, 0⟩] scope pos) (sem s (cLc cf f bk elt tg iter ifs scope)) := by
  unfold cLc
  split
  case isFalse => exact .bad
  rename_i h
  obtain ⟨h1, h2, h3⟩ := h
  refine .v E (fun _ _ => rfl) ?_
  unfold lcG
  split
  case h_2 => exact pe_badV
  rename_i ft hft
  exact pe_lcM E.calm (by rw [E.N]; exact E.nd) (by rw [E.nl]; exact E.nl0) (fun i hi => by rw [E.nl]; exact of_decide_eq_true (List.all_eq_true.mp h2 i hi)) (ok_It O E tg iter) (by rw [E.N, E.sc]; exact blkOk_by h1)
    (fun s' H C cl fp => cTgO_of (E.blk scope s' H C cl fp) hft) (fun s' H C cl fp => ok_ifs O (E.blk scope s' H C cl fp) ifs) (fun s' H C cl fp => (O (E.blk scope s' H C cl fp) elt).V) (folded_of h3 _)
end
end DG

set_option Elab.async false
set_option linter.all false
set_option maxHeartbeats 4000000
/-! DGu: compiled calls, expressions, statements, defs are right. -/
namespace DG
open PySem PySem.Spec PyProof.Rows L2
set_option autoImplicit false
section
variable {X : Cx} {p : Par} {W : WX} {cf : Cf} {s : Sm} {bk : Bk} {a b c : Expr} {pos : Pos} {f : Bk → Expr → CE}
theorem plainC {f : Expr} {args : List Expr} {kws : List Keyword} : plainT (.Call f args kws pos) := fun _ _ => rfl
theorem ok_blt (O : EOk cf s f) (E : EC cf s bk X p W) {x : Str} {p1 : Pos} {a : Expr} {es : List Expr} (hn : nmB x = true) (hg : glB bk.sc x = true) (hb : x ∈ cf.bl) (hs : (a :: es).all noStar = true) :
    BOk X p W (.Call (.Name x p1) (a :: es) [] pos) (sem s (bltC x (cA (f bk) (a :: es)))) := by
  obtain ⟨n1, n2, n3⟩ := nmB_of hn
  have hg := E.gk hg
  obtain ⟨k, _, G⟩ := E.gl
  have hm := G.blt x hb
  have ha := ok_AW O E (a :: es) hs
  rw [List.all_cons, Bool.and_eq_true] at hs
  have h1 := noStar_of hs.1 es X.env
  have h2 := noStar_any hs.2 pos X.env
  unfold bltC
  split
  · rename_i e; subst e; exact .v E plainC (pe_callN cn_len hg hm rfl ha n3 n1 h1 h2)
  split
  · rename_i e; subst e; exact .v E plainC (pe_callN cn_isi hg hm rfl ha n3 n1 h1 h2)
  split
  · rename_i e; subst e; exact .v E plainC (pe_callN (cn_min E.calm) hg hm rfl ha n3 n1 h1 h2)
  split
  · rename_i e; subst e; exact .v E plainC (pe_callN (cn_max E.calm) hg hm rfl ha n3 n1 h1 h2)
  split
  · rename_i e; subst e; exact .v E plainC (pe_callN (cn_all E.calm) hg hm rfl ha n3 n1 h1 h2)
  split
  · rename_i e; subst e; exact .v E plainC (pe_callN (cn_any E.calm) hg hm rfl ha n3 n1 h1 h2)
  split
  · rename_i e; subst e; exact .v E plainC (pe_callN cn_abs hg hm rfl ha n3 n1 h1 h2)
  split
  · rename_i e; subst e; exact .v E plainC (pe_callTyN cn_str hg hm rfl ha n3 n1 h1 h2)
  split
  · rename_i e; subst e; exact .v E plainC (pe_callTyN cn_list hg hm rfl ha n3 n1 h1 h2)
  exact .bad
theorem ok_Call (O : EOk cf s f) (E : EC cf s bk X p W) (g : Expr) (args : List Expr) (kws : List Keyword) : BOk X p W (.Call g args kws pos) (sem s (cCall cf f bk g args kws pos)) := by
  unfold cCall
  split
  · rename_i x p1
    split
    · rename_i h
      obtain ⟨hn, hg, hs⟩ := h
      obtain ⟨n1, n2, n3⟩ := nmB_of hn
      split
      · rename_i i hf
        obtain ⟨k, hr, G⟩ := E.gl
        obtain ⟨n, F, hF, fa, fd, ps, Fn, hm, hk, hb⟩ := G.fn i x (ixOf_get hf)
        refine .v E plainC ?_
        unfold Sm.fn
        rw [hF]
        cases args with
        | nil => exact pe_callFM0 Fn hr (E.gk hg) hm hk hb E.tk n1
        | cons a es =>
          have ha := ok_AW O E (a :: es) hs
          rw [List.all_cons, Bool.and_eq_true] at hs
          exact pe_callFM Fn hr (E.gk hg) hm hk hb E.tk ha n1 (noStar_of hs.1 es _) (noStar_any hs.2 pos _)
      · rename_i hf
        split
        · rename_i h
          cases args with
          | nil => exact absurd rfl h.2
          | cons a es => exact ok_blt O E hn hg h.1 hs
        · exact .bad
    · exact .bad
  · rename_i o m apos
    split
    · rename_i h
      obtain ⟨hb, hl⟩ := h
      have hb := baseOk_of hb
      split
      · rename_i a
        split
        · rename_i hs
          have h1 := noStar_one hs X.env
          split
          · rename_i e; subst e; exact .v E plainC (pe_smM1 F.slot_str_join F.type_str_join mn_join (O E o).W (O E a).W h1 (hb _ _) hl)
          split
          · rename_i e; subst e; exact .v E plainC (pe_smM1 F.slot_str_split F.type_str_split mn_split (O E o).W (O E a).W h1 (hb _ _) hl)
          split
          · rename_i e; subst e; exact .v E plainC (pe_smM1 F.slot_str_startswith F.type_str_startswith mn_starts (O E o).W (O E a).W h1 (hb _ _) hl)
          split
          · rename_i e; subst e; exact ⟨pe_badW, pe_badV, pt_badT, fun _ => pi_badI, pe_appM (O E o).PL (O E a).V (hb _ _) hl h1, pe_badP⟩
          exact .bad
        · exact .bad
      · exact .bad
    · exact .bad
  · exact .bad
theorem ok_Prs (O : EOk cf s f) : ∀ {ks : List (Option Expr)} {vs : List Expr} {prs : CE}, EC cf s bk X p W0 → cPrs (f bk) ks vs = some prs → PPs X pos ks vs ((sem s prs).P.map fun q => (tW X p W0 q.1, tV X p W0 q.2)) ∧ ks.all (·.isSome) = true
  | [], [], prs, E, h => by cases h; exact ⟨pps_nil, rfl⟩
  | some k :: ks, v :: vs, prs, E, h => by
    unfold cPrs at h
    cases q : cPrs (f bk) ks vs with
    | none => rw [q] at h; cases h
    | some pr =>
      rw [q] at h
      cases h
      obtain ⟨h1, h2⟩ := ok_Prs O E q
      exact ⟨pps_cons (O E k).W (O E v).V h1, by rw [List.all_cons, h2]; rfl⟩
  | none :: _, _ :: _, _, _, h => by cases h
  | none :: _, [], _, _, h => by cases h
  | some _ :: _, [], _, _, h => by cases h
  | [], _ :: _, _, _, h => by cases h
theorem ok_E (cf : Cf) (s : Sm) : ∀ n, EOk cf s (cE cf n)
  | 0 => fun _ _ _ _ _ _ => .bad
  | n + 1 => by
    intro bk X p W E e
    have O : EOk cf s (cE cf n) := ok_E cf s n
    unfold cE
    split
    · exact ok_name E _
    · exact ok_cst E _
    · rename_i c a b pos
      exact ⟨pe_ifW (O E c).T (O E a).W (O E b).W, pe_ifV (O E c).T (O E a).V (O E b).V, pt_badT, fun tg => pi_seqM (fun _ => E.O) (pe_ifV (O E c).T (O E a).V (O E b).V), pe_zero (pe_ifV (O E c).T (O E a).V (O E b).V), pe_badP⟩
    · exact .v E (fun _ _ => rfl) (pe_sliM (O E _).W (ok_O O E _) (ok_O O E _))
    · split
      · rename_i h; exact .w E (fun _ _ => rfl) (pe_subM (by have := E.units; omega) (O E _).W (O E _).W (plainIx_of h))
      · exact .bad
    · exact .v E (fun _ _ => rfl) (pe_binN (on_op _) (O E _).W (O E _).W)
    · exact .t E (pe_notV (O E _).W) (pt_notM (O E _).T)
    · rename_i op vs pos
      split
      · rename_i h
        have key : ∀ {g : CE → CE → CE}, (∀ a b, sem s (g a b) = mkT (sem s (g a b)).V (sem s (g a b)).T) → sem s (cBool g (cE cf n bk) vs) = mkT (sem s (cBool g (cE cf n bk) vs)).V (sem s (cBool g (cE cf n bk) vs)).T := by
          intro g hg
          cases vs with
          | nil => simp at h
          | cons a r =>
            cases r with
            | nil => simp at h
            | cons b r => exact hg _ _
        cases op with
        | And => dsimp only; rw [key (g := .an) fun _ _ => rfl]; exact .t E (ok_andV O E _) (ok_andT O E _).pt
        | Or => dsimp only; rw [key (g := .ro) fun _ _ => rfl]; exact .t E (ok_orV O E _) (ok_orT O E _).pt
      · exact .bad
    · split
      · rename_i h; exact .t E (pe_cmpN (on_cmp E.units _) (O E _).W (O E _).W h) (pt_cmpM (on_cmp E.units _) (O E _).W (O E _).W h)
      · exact .bad
    · split
      · rename_i h; exact .t E (pe_chainM (on_cmp E.units _) (on_cmp E.units _) (O E _).W (O E _).W (O E _).W h) (pt_chainM (on_cmp E.units _) (on_cmp E.units _) (O E _).W (O E _).W (O E _).W h)
      · exact .bad
    · exact ok_Call O E _ _ _
    · split
      · rename_i h; exact .v E (fun _ _ => rfl) (pe_lstM (ok_AV O E _ h))
      · exact .bad
    · split
      · rename_i h; exact .v E (fun _ _ => rfl) (pe_tupM (ok_AV O E _ h))
      · exact .bad
    · split
      · rename_i h; subst h; exact ok_Lc O E _ _ _ _ _
      · exact .bad
    · split
      · rename_i h
        obtain ⟨rfl, rfl⟩ := h
        exact .v E (fun _ _ => rfl) pe_newDK
      · rename_i hne
        split
        · rename_i h
          split
          · rename_i prs hp
            obtain ⟨h1, h2⟩ := ok_Prs O E.w0 hp
            refine .v E (fun _ _ => rfl) (pe_dispM h1 h2 h.1 (fun z => hne ⟨z, ?_⟩) h.2)
            subst z
            exact List.eq_nil_of_length_eq_zero (by simpa using h.1.symm)
          · exact .bad
        · exact .bad
    · exact .bad
/-! ### statements -/
theorem noComp_of {e : Expr} (h : isComp e = false) (t : Option Expr) (l : Nat) (env : PySem.Env) : swapsWith e t l env = pure false := by
  cases e <;> first | rfl | cases h
theorem ps_badM {st : Stmt} : PS X st (tS X p W .bad) := ⟨fun pins s σ H D I ⟨_, _, _, _, _, q⟩ => False.elim q⟩
theorem pss_badM {st : List Stmt} : PSs X st (tS X p W .bad) := ⟨fun pins s σ H D I ⟨_, _, _, _, _, q⟩ => False.elim q⟩
theorem ps_nextM {st : Stmt} (h : PS X st tNext) : PS X st (tS X p W (.ret .next)) := PSmono h fun D σ H ⟨lk, L, e, st, g, q⟩ => q σ H g
theorem store_imp {i : Nat} {f : M D} {D : Ends} {lk : List Addr} {L : Lk} {σ : L2.St} {e : Env} {st : Stk} (hio : p.io = none) (q : (setM i f e).run (FwK X p lk L st D) (XS X p W lk L st)) :
    (f e).run (fun d e' => ∀ v H', Gd X p lk L σ H' e' ((v, d) :: st) [] → D.nx (σ.set i (some v)) H') (XW X p W lk L σ st) :=
  Res.run_mono (run_bind q) (fun d e' q v H' g' => by
    obtain ⟨e2, he, q⟩ := run_lift (run_bind q)
    obtain ⟨h1, h2, rfl⟩ := putE_of he
    exact q _ _ (g'.store h1 (.inl hio) (.inl rfl))) XS.xw
theorem lcG_none {own : List Nat} {it : M (List D)} {t : M Bool} {v : M D} {i : Nat} {st : Stmt} : PS X st (tS X p W (setM i (lcG own none it t v))) := ⟨fun pins s σ H D I ⟨_, _, _, _, _, q⟩ => False.elim q⟩
theorem ok_setLc (O : EOk cf s f) (E : EC cf s bk X p W) {x : Str} {i : Nat} {ps cp : Pos} {elt tg iter : Expr} {ifs : List Expr} {scope : Scope} (hi : ixOf cf.N x = some i) (hs : swapB bk x ps cp scope = true) :
    PS X (.Assign [.Name x ps] (.ListComp elt [⟨tg, iter, ifs, 0⟩] scope cp) pos) (tS X p W (setM i (sem s (cLc cf f bk elt tg iter ifs scope)).V0)) := by
  unfold cLc
  split
  case isFalse => exact ⟨fun pins s σ H D I ⟨_, _, _, _, _, q⟩ => False.elim q⟩
  rename_i h
  obtain ⟨h1, h2, h3⟩ := h
  unfold swapB at hs
  simp only [Bool.and_eq_true, Bool.not_eq_true'] at hs
  obtain ⟨⟨⟨s1, s2⟩, s3⟩, s4⟩ := hs
  have s1 : X.env.scope.kind = .function := by
    rw [E.sc]
    split at s1
    · assumption
    · cases s1
  have s2 : X.env.scope.names.lookup x = some .local := by
    rw [E.sc]
    split at s2
    · assumption
    · cases s2
  have hn : ∀ i ∈ (ownOf cf.N scope).map (·.2), p.nl ≤ i := fun i hi => by
    rw [E.nl]
    exact of_decide_eq_true (List.all_eq_true.mp h2 i hi)
  show PS X _ (tS X p W (setM i (lcG ((ownOf cf.N scope).map (·.2)) (sem s (cTgO cf (inBk scope bk) ((ownOf cf.N scope).map (·.2)) tg)).G (sem s (cIt cf (f bk) bk iter)).I (sem s (match ifs with
      | [] => .yes
      | [c] => f (inBk scope bk) c
      | _ => .bad)).T (sem s (f (inBk scope bk) elt)).V)))
  cases hft : (sem s (cTgO cf (inBk scope bk) ((ownOf cf.N scope).map (·.2)) tg)).G with
  | none => exact lcG_none
  | some ft =>
    refine PSmono (ps_setLc (i := i) (g := tGo X p ((ownOf cf.N scope).map (·.2)) ft) (tt := tT X p W0 (sem s (match ifs with
      | [] => .yes
      | [c] => f (inBk scope bk) c
      | _ => .bad)).T) (te := tV X p W0 (sem s (f (inBk scope bk) elt)).V) E.calm (by rw [E.N]; exact E.nd) (by rw [E.N]; exact ixOf_get hi) s2 (sw_true s1 s2 s3 s4) (ok_It O E tg iter) (by rw [E.N, E.sc]; exact blkOk_by h1)
      (fun s' H C cl fp => cTgO_of (E.blk scope s' H C cl fp) hft) (fun s' H C cl fp => ok_ifs O (E.blk scope s' H C cl fp) ifs) (fun s' H C cl fp => (O (E.blk scope s' H C cl fp) elt).V) (folded_of h3 _)) ?_
    rintro D σ H ⟨lk, L, e, st, g, q⟩
    exact lc_imp (by rw [E.nl]; exact E.nl0) hn ⟨lk, L, e, st, [], g, store_imp E.io q⟩
theorem ok_Ss (E : EC cf s bk X p W) (hp : PassesOwn (model X.prog X.w) X.A X.env X.xe) : ∀ (n : Nat) (ss : List Stmt), PSs X ss (tS X p W (sem s (cSs cf bk n ss)).S)
  | 0, _ => pss_badM
  | n + 1, ss => by
    have O : EOk cf s (cE cf n) := ok_E cf s n
    unfold cSs
    cases ss with
    | nil => exact pss_nilM
    | cons s0 rest =>
      dsimp only
      have key : ∀ g : CE, PS X s0 (tS X p W (sem s g).S) → PSs X (s0 :: rest) (tS X p W (sem s (match rest with
        | [] => g
        | _ :: _ => .sq g (cSs cf bk n rest))).S) := fun g h => by
        cases rest with
        | nil => exact pss_oneM h
        | cons s2 r2 => exact pss_consM h (ok_Ss E hp n _)
      apply key
      split
      · exact ps_nextM (PSmono (ps_expr pe_str rfl) fun D σ H q => q)
      · split
        · rename_i h; exact ps_exprM (O E _).V0 (noComp_of h _ _ _)
        · exact ps_badM
      · exact ps_retM (pe_zero (O E _).V)
      · exact ps_retNM
      · exact ps_nextM ps_pass
      · exact ps_brkM
      · exact ps_contM
      · exact ps_ifM (O E _).T (ok_Ss E hp n _) (ok_Ss E hp n _)
      · split
        · rename_i h
          obtain ⟨l1, l2⟩ := locB_of h
          split
          · rename_i i hi
            split
            · split
              · rename_i hz
                obtain ⟨rfl, hz⟩ := hz
                exact ok_setLc O E hi hz
              · exact ps_badM
            · split
              · rename_i hz
                exact ps_setM (fun _ => E.io) (by rw [E.N]; exact E.nd) (by rw [E.N]; exact ixOf_get hi) (by rw [E.sc]; exact l1) (O E _).V0 (noComp_of hz _ _ _) (by rw [E.fn, E.sc]; exact l2)
              · exact ps_badM
          · exact ps_badM
        · exact ps_badM
      · split
        · rename_i tg iter body pos h
          show PS X _ (tS X p W (frG (sem s (cTg cf bk tg)).G (sem s (cIt cf (cE cf n bk) bk iter)).I (sem s (cSs cf bk n body)).S))
          cases hft : (sem s (cTg cf bk tg)).G with
          | none => exact ps_badM
          | some ft => exact ps_forM hp E.calm (ok_It O E _ _) (cTg_of E hft) (ok_Ss E hp n _) (folded_of h _)
        · exact ps_badM
      · exact ps_badM
end
/-! ### a def -/
def cDef (cf : Cf) (st : Stmt) (n : Nat) : CE := cSs cf ⟨defScope st, fun _ => true⟩ n (defBody st)
structure GOk0 (P : Program) (w : World) (K : PySem.W.Frag) (mg : Str → Option Value) (base : Heap) (k : Nat) (cf : Cf) (s : Sm) : Prop where
  fn : ∀ (i : Nat) (x : Str), cf.fn[i]? = some x → ∃ (n : Nat) (F : List D → FRes), s.fs[i]? = some (n, F) ∧ ∃ fa fd ps, FnOk P w K mg base (L2.CX P w) k fa fd ps (spF K mg n F) ∧ mg x = some (.ref fa) ∧ PySem.W.keepIn K (.ref fa) = true ∧ Binds K fd ps []
  cst : ∀ x c, cf.cs.lookup x = some c → ∃ v u, (match c with | .cN => v = V.non | .cB b => v = V.bl b | .cI i => v = V.int i | .cT z => v = V.str z | _ => False) ∧ mg x = some u ∧ RelV v u
  blt : ∀ x ∈ cf.bl, mg x = none
theorem def_ok {P : Program} {w : World} {K : PySem.W.Frag} {mg : Str → Option Value} {base : Heap} {k n : Nat} {fa : Addr} {x qual : Str} {st : Stmt} {fd : FuncData} {ps : List Str} {cf : Cf} {s : Sm} {c : CE} (m : Nat) (hc : cDef cf st m = c) (Fn : Fun K x qual st fa fd) (S : FnScope cf.N ps (defScope st))
    (hn : ps.length = n) (G : GOk0 P w K mg base k cf s) (h0 : 0 < cf.nl) (h1 : s.nl = cf.nl) : FnOk P w K mg base (L2.CX P w) (k + 1) fa fd ps (spF K mg n (fnRun cf.N.length (sem s c).S)) := by
  subst hc
  refine fn_body (nl := cf.nl) Fn S hn fun X p W B hO hio hnl => ?_
  have E : EC cf s ⟨defScope st, fun _ => true⟩ X p W := by
    refine ⟨B.N, S.nd, h0, hnl, h1, B.sc, funext B.fn, B.calm, hO, hio, B.tk, k, B.room, ?_⟩
    obtain ⟨e1, e2, e3, e4, e5⟩ := (⟨B.prog, B.w, B.K, B.mg, B.base⟩ : X.prog = P ∧ X.w = w ∧ X.K = K ∧ X.mg = mg ∧ X.base = base)
    subst e1 e2 e3 e4 e5
    exact ⟨G.fn, G.cst, G.blt⟩
  exact ok_Ss E B.own m _
end DG

set_option Elab.async false
set_option linter.all false
set_option maxHeartbeats 4000000
/-! DGv: what one says of a law's defs. -/
namespace DG
open PySem PySem.Spec PyProof.Rows L2
set_option autoImplicit false
def fnScopeB (N P : List Str) (sc : Scope) : Bool := (match sc.kind with | .function => true | _ => false) && !sc.isCoroutine && !sc.isGenerator && decide N.Nodup && decide (N.take P.length = P) &&
  (P.all fun x => match sc.names.lookup x with | some .local => true | some .cell => true | _ => false) && (sc.names.all fun y => match y.2 with | .free => false | _ => true)
theorem fnScope_by {N P : List Str} {sc : Scope} (h : fnScopeB N P sc = true) : FnScope N P sc := by
  unfold fnScopeB at h
  simp only [Bool.and_eq_true, Bool.not_eq_true', decide_eq_true_eq, List.all_eq_true] at h
  obtain ⟨⟨⟨⟨⟨⟨h1, h2⟩, h3⟩, h4⟩, h5⟩, h6⟩, h7⟩ := h
  refine ⟨?_, h2, h3, h4, h5, fun x hx => ?_, fun y hy e => ?_⟩
  · split at h1
    · assumption
    · cases h1
  · have := h6 x hx
    split at this
    · exact .inl ‹_›
    · exact .inr ‹_›
    · cases this
  · have := h7 y hy
    rw [e] at this
    cases this
end DG

set_option Elab.async false
set_option linter.all false
set_option maxHeartbeats 4000000
/-! DGw: computing with pieces. -/
namespace DG
open PySem PySem.Spec PyProof.Rows L2
set_option autoImplicit false
def Res.bnd {α β : Type} (r : Res α) (g : α → M β) : Res β := match r with
  | .ok a e => g a e
  | .exc c fs e => .exc c fs e
  | .bad => .bad
section
variable {α β : Type}
@[simp] theorem bnd_ok (a : α) (e : Env) (g : α → M β) : (Res.ok a e).bnd g = g a e := rfl
@[simp] theorem bnd_exc (c : Str) (fs : List (Str × D)) (e : Env) (g : α → M β) : (Res.exc c fs e).bnd g = .exc c fs e := rfl
@[simp] theorem bnd_bad (g : α → M β) : (Res.bad).bnd g = .bad := rfl
@[simp] theorem bind_app (f : M α) (g : α → M β) (e : Env) : (f.bind g) e = (f e).bnd g := by
  unfold M.bind Res.bnd
  cases f e <;> rfl
@[simp] theorem ret_app (a : α) (e : Env) : (M.ret a) e = .ok a e := rfl
@[simp] theorem bad_app (e : Env) : (M.bad : M α) e = .bad := rfl
@[simp] theorem opt_some (a : α) : M.opt (some a) = .ret a := rfl
@[simp] theorem opt_none : M.opt (none : Option α) = .bad := rfl
@[simp] theorem iteM_app (c : Prop) [Decidable c] (f g : M α) (e : Env) : (if c then f else g) e = if c then f e else g e := by split <;> rfl
@[simp] theorem ite_bnd (c : Prop) [Decidable c] (x y : Res α) (g : α → M β) : (if c then x else y).bnd g = if c then x.bnd g else y.bnd g := by split <;> rfl
end
def onB {α : Type} (d : D) (t f : M α) : M α := match d with
  | .bl true => t
  | .bl false => f
  | _ => .bad
@[simp] theorem onB_bl {α : Type} (b : Bool) (t f : M α) : onB (.bl b) t f = if b = true then t else f := by cases b <;> rfl
theorem chainM_eq (o1 o2 : D → D → Option Nw) (f g h : M D) : chainM o1 o2 f g h = f.bind fun a => g.bind fun b => (newM (o1 a b)).bind fun r => onB r (h.bind fun c => newM (o2 b c)) (.ret (.bl false)) := by
  unfold chainM onB
  rfl
theorem andV_eq (f g : M D) : andV f g = f.bind fun d => onB d g (.ret (.bl false)) := rfl
theorem orV_eq (f g : M D) : orV f g = f.bind fun d => onB d (.ret (.bl true)) g := by
  unfold orV
  congr 1
  funext d
  cases d with
  | bl k => cases k <;> rfl
  | _ => rfl
theorem notV_eq (f : M D) : notV f = f.bind fun d => onB d (.ret (.bl false)) (.ret (.bl true)) := by
  unfold notV
  congr 1
  funext d
  cases d with
  | bl k => cases k <;> rfl
  | _ => rfl
@[simp] theorem blM_bl (b : Bool) : blM (.bl b) = .ret b := rfl
@[simp] theorem new_int (i : Int) : newM (some (.sc (.int i))) = .ret (.int i) := rfl
@[simp] theorem new_bl (i : Bool) : newM (some (.sc (.bl i))) = .ret (.bl i) := rfl
@[simp] theorem new_str (i : Str) : newM (some (.sc (.str i))) = .ret (.str i) := rfl
@[simp] theorem new_non : newM (some (.sc .non)) = .ret .non := rfl
@[simp] theorem new_none : newM none = .bad := rfl
@[simp] theorem new_nl (ds : List D) : newM (some (.nl ds)) = if immL ds = true then .ret (.lst .own ds) else .bad := rfl
@[simp] theorem new_nt (ds : List D) : newM (some (.nt ds)) = if immL ds = true then .ret (.tup ds) else .bad := rfl
@[simp] theorem immM_int (i : Int) : immM (.int i) = .ret (.int i) := rfl
@[simp] theorem immM_bl (i : Bool) : immM (.bl i) = .ret (.bl i) := rfl
@[simp] theorem immM_str (i : Str) : immM (.str i) = .ret (.str i) := rfl
@[simp] theorem immM_non : immM .non = .ret .non := rfl
@[simp] theorem immM_ty (s : String) : immM (.ty s) = .ret (.ty s) := rfl
@[simp] theorem lend_int (i : Int) : mapF (fun _ => Fl.ro) (.int i) = .int i := rfl
@[simp] theorem lend_bl (i : Bool) : mapF (fun _ => Fl.ro) (.bl i) = .bl i := rfl
@[simp] theorem lend_str (i : Str) : mapF (fun _ => Fl.ro) (.str i) = .str i := rfl
@[simp] theorem lend_non : mapF (fun _ => Fl.ro) .non = .non := rfl
@[simp] theorem lend_ty (s : String) : mapF (fun _ => Fl.ro) (.ty s) = .ty s := rfl
@[simp] theorem lend_lst (f : Fl) (ds : List D) : mapF (fun _ => Fl.ro) (.lst f ds) = .lst .ro (mapFL (fun _ => Fl.ro) ds) := rfl
@[simp] theorem lend_dk (f : Fl) (ks : List (Key × D)) : mapF (fun _ => Fl.ro) (.dk f ks) = .dk .ro (mapFK (fun _ => Fl.ro) ks) := rfl
@[simp] theorem lend_dt (f : Fl) (ks : List (List Key × D)) : mapF (fun _ => Fl.ro) (.dt f ks) = .dt .ro (mapFT (fun _ => Fl.ro) ks) := rfl
@[simp] theorem lend_tup (ds : List D) : mapF (fun _ => Fl.ro) (.tup ds) = .tup (mapFL (fun _ => Fl.ro) ds) := rfl
theorem immL_map {α : Type} (f : α → D) (h : ∀ a, imm (f a) = true) : ∀ l : List α, immL (l.map f) = true
  | [] => rfl
  | a :: l => by
    show allFL _ (f a :: l.map f) = true
    rw [allFL, show allF (fun _ => false) (f a) = true from h a, show allFL (fun _ => false) (l.map f) = true from immL_map f h l]; rfl
theorem mapFL_id (g : Fl → Fl) {ds : List D} (h : immL ds = true) : mapFL g ds = ds := mapFL_imm g ds h
/-! ### loops -/
/-- a loop that only goes on -/
theorem loopM_all {ft : D → Env → Option Env} {body : M Fw} : ∀ (ds : List D) (I : Nat → Env → Prop) (e : Env), I 0 e →
    (∀ (i : Nat) (d : D) (e : Env), ds[i]? = some d → I i e → ∃ e1 e2, ft d e = some e1 ∧ (body e1 = .ok .next e2 ∨ body e1 = .ok .cont e2) ∧ I (i + 1) e2) → ∃ e', loopM ft body ds e = .ok .next e' ∧ I ds.length e'
  | [], I, e, h0, _ => ⟨e, rfl, h0⟩
  | d :: r, I, e, h0, h => by
    obtain ⟨e1, e2, h1, h2, h3⟩ := h 0 d e rfl h0
    obtain ⟨e', k1, k2⟩ := loopM_all r (fun i => I (i + 1)) e2 h3 fun i d e hd hI => h (i + 1) d e hd hI
    refine ⟨e', ?_, k2⟩
    unfold loopM liftT
    rw [bind_app, h1, bnd_ok, bind_app]
    rcases h2 with h2 | h2 <;> (rw [h2, bnd_ok]; exact k1)
/-- a comprehension, item by item -/
theorem lcLoop_map {α : Type} {own : List Nat} {ft : D → Env → Option Env} {ftest : M Bool} {fe : M D} {e : Env} (emb : α → D) (P : α → Bool) (g : α → D) : ∀ (xs : List α) (acc : List D), acc.length + xs.length ≤ sizeLine → killAll own e = e →
    (∀ x ∈ xs, ∃ e1, ft (emb x) e = some e1 ∧ ∃ e2, ftest e1 = .ok (P x) e2 ∧ (if P x = true then ∃ e3, fe e2 = .ok (g x) e3 ∧ killAll own e3 = e else killAll own e2 = e)) →
    lcLoop own ft ftest fe (xs.map emb) acc e = .ok (.lst .own (acc ++ (xs.filter P).map g)) e
  | [], acc, _, _, _ => by unfold lcLoop; simp
  | d :: r, acc, hl, hk, h => by
    obtain ⟨e1, h1, e2, h2, h3⟩ := h d List.mem_cons_self
    have hlen : acc.length + (r.length + 1) ≤ sizeLine := by rw [List.length_cons] at hl; exact hl
    rw [List.map_cons]
    unfold lcLoop liftT noexc
    rw [bind_app, h1, bnd_ok, bind_app, h2]
    dsimp only [bnd_ok]
    cases hp : P d with
    | true =>
      rw [hp, if_pos rfl] at h3
      obtain ⟨e3, h4, h5⟩ := h3
      rw [bind_app, if_pos rfl, bind_app, h4]
      dsimp only [bnd_ok]
      rw [if_pos (by omega)]
      show lcLoop own ft ftest fe (r.map emb) (acc ++ [g d]) (killAll own e3) = _
      rw [h5, lcLoop_map emb P g r (acc ++ [g d]) (by rw [List.length_append]; simp; omega) hk fun d hd => h d (List.mem_cons_of_mem _ hd), List.filter_cons_of_pos hp, List.map_cons, List.append_assoc]
      rfl
    | false =>
      rw [hp, if_neg Bool.false_ne_true] at h3
      rw [bind_app, if_neg Bool.false_ne_true, ret_app, bnd_ok]
      show lcLoop own ft ftest fe (r.map emb) acc (killAll own e2) = _
      rw [h3, lcLoop_map emb P g r acc (by omega) hk fun d hd => h d (List.mem_cons_of_mem _ hd), List.filter_cons_of_neg (by rw [hp]; exact Bool.false_ne_true)]
/-- .. without a test -/
theorem lcLoop_map1 {α : Type} {own : List Nat} {ft : D → Env → Option Env} {fe : M D} {e : Env} (emb : α → D) (g : α → D) (xs : List α) (hl : xs.length ≤ sizeLine) (hk : killAll own e = e)
    (h : ∀ x ∈ xs, ∃ e1, ft (emb x) e = some e1 ∧ ∃ e3, fe e1 = .ok (g x) e3 ∧ killAll own e3 = e) :
    lcLoop own ft (M.ret true) fe (xs.map emb) [] e = .ok (.lst .own (xs.map g)) e := by
  rw [lcLoop_map emb (fun _ => true) g xs [] (by simpa using hl) hk, List.filter_eq_self.mpr (fun _ _ => rfl), List.nil_append]
  intro x hx
  obtain ⟨e1, h1, e3, h2, h3⟩ := h x hx
  exact ⟨e1, h1, e1, rfl, by rw [if_pos rfl]; exact ⟨e3, h2, h3⟩⟩
theorem blsD_map {α : Type} (f : α → Bool) : ∀ l : List α, blsD (l.map fun a => .bl (f a)) = some (l.map f)
  | [] => rfl
  | a :: l => by rw [List.map_cons, List.map_cons]; show (blsD _).map _ = _; rw [blsD_map f l]; rfl
theorem strsD_map {α : Type} (f : α → Str) : ∀ l : List α, strsD (l.map fun a => .str (f a)) = some (l.map f)
  | [] => rfl
  | a :: l => by rw [List.map_cons, List.map_cons]; show (strsD _).map _ = _; rw [strsD_map f l]; rfl
theorem lendL_map {α : Type} (g : Fl → Fl) (f : α → D) (h : ∀ a, imm (f a) = true) (l : List α) : mapFL g (l.map f) = l.map f := mapFL_id g (immL_map f h l)
end DG

set_option Elab.async false
set_option linter.all false
set_option maxHeartbeats 4000000
/-! DGx: what a piece does, step by step. -/
namespace DG
open PySem PySem.Spec PyProof.Rows L2
set_option autoImplicit false
def lendK (d : D) : M D := .ret (lend d)
def binK (op : D → D → Option Nw) (g : M D) (x : D) : M D := g.bind fun y => newM (op x y)
def binK2 (op : D → D → Option Nw) (x y : D) : M D := newM (op x y)
def chnK3 (o2 : D → D → Option Nw) (h : M D) (y : D) (r : D) : M D := onB r (h.bind (binK2 o2 y)) (.ret (.bl false))
def chnK2 (o1 o2 : D → D → Option Nw) (h : M D) (x y : D) : M D := (newM (o1 x y)).bind (chnK3 o2 h y)
def chnK (o1 o2 : D → D → Option Nw) (g h : M D) (x : D) : M D := g.bind (chnK2 o1 o2 h x)
def notK (d : D) : M D := onB d (.ret (.bl false)) (.ret (.bl true))
def nK (b : Bool) : M Bool := .ret (!b)
def andK (g : M D) (d : D) : M D := onB d g (.ret (.bl false))
def orK (g : M D) (d : D) : M D := onB d (.ret (.bl true)) g
def andTK (g : M Bool) (b : Bool) : M Bool := if b then g else .ret false
def orTK (g : M Bool) (b : Bool) : M Bool := if b then .ret true else g
def iteK {α : Type} (f g : M α) (b : Bool) : M α := if b then f else g
def callK (o : Option (Nat × (List D → FRes))) (ds : List D) : M D := match o with
  | some (n, F) => if ds.length = n then resM (F ds) else .bad
  | none => .bad
def bltD (id : Nat) : List D → Option Nw := match id with
  | 0 => lenD
  | 1 => isiD
  | 2 => minD
  | 3 => maxD
  | 4 => allD
  | 5 => anyD
  | 6 => absD
  | 7 => strD
  | 8 => listD
  | _ => fun _ => none
def bltK (id : Nat) (ds : List D) : M D := newM (bltD id ds)
def metD (id : Nat) : D → List D → Option Nw := match id with
  | 0 => joinD
  | 1 => splitD
  | 2 => startsD
  | _ => fun _ _ => none
def metK2 (id : Nat) (x y : D) : M D := newM (metD id x [y])
def metK (id : Nat) (g : M D) (x : D) : M D := if isStr x then g.bind (metK2 id x) else .bad
def appK2 (q : Nat × Pth) (d : D) : M D := fun e => match atP q e with
  | some (.lst .own ds) => if ds.length < sizeLine then .ok .non (setAt q (.lst .own (ds ++ [d])) e) else .bad
  | _ => .bad
def appK (g : M D) (q : Nat × Pth) : M D := fun e => match atP q e with
  | some (.lst _ _) => (g.bind (appK2 q)) e
  | _ => .bad
def lstK (ds : List D) : M D := if ds.length ≤ sizeLine then .ret (.lst .own ds) else .bad
def tupK (ds : List D) : M D := if ds.length ≤ sizeLine then .ret (.tup ds) else .bad
def sliK3 (d : D) (lo hi : Option Int) : M D := newM (sliceD lo hi d)
def sliK2 (h : M (Option Int)) (d : D) (lo : Option Int) : M D := h.bind (sliK3 d lo)
def sliK (l h : M (Option Int)) (d : D) : M D := l.bind (sliK2 h d)
def subK2 (a b : D) : M D := .opt (ixD a b)
def subK (g : M D) (a : D) : M D := g.bind (subK2 a)
def consK2 {α : Type} (d : α) (ds : List α) : M (List α) := .ret (d :: ds)
def consK {α : Type} (g : M (List α)) (d : α) : M (List α) := g.bind (consK2 d)
def lcK (own : List Nat) (ft : D → Env → Option Env) (t : M Bool) (v : M D) (ds : List D) : M D := fun e => if own.all (fun i => match e[i]? with | some none => true | _ => false) then lcLoop own ft t v ds [] e else .bad
def dispK (kvs : List (Key × D)) : M D := if kvs.length ≤ 15 ∧ (kvs.map (·.1)).Nodup then .ret (.dk .own kvs) else .bad
def exK (_ : D) : M Fw := .ret .next
def retK (d : D) : M Fw := .ret (.ret d)
def setK (i : Nat) (d : D) : M Fw := fun e => if i < e.length then .ok .next (e.set i (some d)) else .bad
def Res.sq (r : Res Fw) (g : M Fw) : Res Fw := match r with
  | .ok .next e => g e
  | .ok .brk e => .ok .brk e
  | .ok .cont e => .ok .cont e
  | .ok (.ret d) e => .ok (.ret d) e
  | .exc c fs e => .exc c fs e
  | .bad => .bad
@[simp] theorem sq_next (e : Env) (g : M Fw) : (Res.ok .next e).sq g = g e := rfl
@[simp] theorem sq_brk (e : Env) (g : M Fw) : (Res.ok .brk e).sq g = .ok .brk e := rfl
@[simp] theorem sq_cont (e : Env) (g : M Fw) : (Res.ok .cont e).sq g = .ok .cont e := rfl
@[simp] theorem sq_ret (d : D) (e : Env) (g : M Fw) : (Res.ok (.ret d) e).sq g = .ok (.ret d) e := rfl
@[simp] theorem sq_exc (c : Str) (fs : List (Str × D)) (e : Env) (g : M Fw) : (Res.exc c fs e).sq g = .exc c fs e := rfl
@[simp] theorem sq_bad (g : M Fw) : (Res.bad).sq g = .bad := rfl
@[simp] theorem ite_sq (c : Prop) [Decidable c] (x y : Res Fw) (g : M Fw) : (if c then x else y).sq g = if c then x.sq g else y.sq g := by split <;> rfl
/-! ### continuations at values -/
section
variable (e : Env)
@[simp] theorem lendK_app (d : D) : lendK d e = .ok (lend d) e := rfl
@[simp] theorem binK_app (op : D → D → Option Nw) (g : M D) (x : D) : binK op g x e = (g e).bnd (binK2 op x) := bind_app g (binK2 op x) e
@[simp] theorem binK2_app (op : D → D → Option Nw) (x y : D) : binK2 op x y e = newM (op x y) e := rfl
@[simp] theorem chnK_app (o1 o2 : D → D → Option Nw) (g h : M D) (x : D) : chnK o1 o2 g h x e = (g e).bnd (chnK2 o1 o2 h x) := bind_app ..
@[simp] theorem chnK2_app (o1 o2 : D → D → Option Nw) (h : M D) (x y : D) : chnK2 o1 o2 h x y e = (newM (o1 x y) e).bnd (chnK3 o2 h y) := bind_app ..
@[simp] theorem chnK3_bl (o2 : D → D → Option Nw) (h : M D) (y : D) (b : Bool) : chnK3 o2 h y (.bl b) e = if b = true then (h e).bnd (binK2 o2 y) else .ok (.bl false) e := by
  unfold chnK3
  rw [onB_bl, iteM_app, bind_app]; rfl
@[simp] theorem notK_bl (b : Bool) : notK (.bl b) e = .ok (.bl (!b)) e := by cases b <;> rfl
@[simp] theorem nK_app (b : Bool) : nK b e = .ok (!b) e := rfl
@[simp] theorem andK_bl (g : M D) (b : Bool) : andK g (.bl b) e = if b = true then g e else .ok (.bl false) e := by cases b <;> rfl
@[simp] theorem orK_bl (g : M D) (b : Bool) : orK g (.bl b) e = if b = true then .ok (.bl true) e else g e := by cases b <;> rfl
@[simp] theorem andTK_app (g : M Bool) (b : Bool) : andTK g b e = if b = true then g e else .ok false e := by cases b <;> rfl
@[simp] theorem orTK_app (g : M Bool) (b : Bool) : orTK g b e = if b = true then .ok true e else g e := by cases b <;> rfl
@[simp] theorem iteK_app {α : Type} (f g : M α) (b : Bool) : iteK f g b e = if b = true then f e else g e := by cases b <;> rfl
@[simp] theorem callK_app (n : Nat) (F : List D → FRes) (ds : List D) : callK (some (n, F)) ds e = if ds.length = n then resM (F ds) e else .bad := iteM_app _ _ _ e
@[simp] theorem resM_ok (d : D) : resM (.ok d) e = .ok d e := rfl
@[simp] theorem resM_exc (c : Str) (fs : List (Str × D)) : resM (.exc c fs) e = .exc c fs e := rfl
@[simp] theorem bltK_app (id : Nat) (ds : List D) : bltK id ds e = newM (bltD id ds) e := rfl
@[simp] theorem metK_app (id : Nat) (g : M D) (x : Str) : metK id g (.str x) e = (g e).bnd (metK2 id (.str x)) := bind_app ..
@[simp] theorem metK2_app (id : Nat) (x y : D) : metK2 id x y e = newM (metD id x [y]) e := rfl
theorem appK_app {g : M D} {q : Nat × Pth} {f : Fl} {ds : List D} {e : Env} (h : atP q e = some (.lst f ds)) : appK g q e = (g e).bnd (appK2 q) := by
  unfold appK
  rw [h]
  exact bind_app ..
theorem appK2_app {q : Nat × Pth} {ds : List D} {d : D} {e : Env} (h : atP q e = some (.lst .own ds)) : appK2 q d e = if ds.length < sizeLine then .ok .non (setAt q (.lst .own (ds ++ [d])) e) else .bad := by
  unfold appK2
  rw [h]
@[simp] theorem lstK_app (ds : List D) : lstK ds e = if ds.length ≤ sizeLine then .ok (.lst .own ds) e else .bad := iteM_app _ _ _ e
@[simp] theorem tupK_app (ds : List D) : tupK ds e = if ds.length ≤ sizeLine then .ok (.tup ds) e else .bad := iteM_app _ _ _ e
@[simp] theorem sliK_app (l h : M (Option Int)) (d : D) : sliK l h d e = (l e).bnd (sliK2 h d) := bind_app ..
@[simp] theorem sliK2_app (h : M (Option Int)) (d : D) (lo : Option Int) : sliK2 h d lo e = (h e).bnd (sliK3 d lo) := bind_app ..
@[simp] theorem sliK3_app (d : D) (lo hi : Option Int) : sliK3 d lo hi e = newM (sliceD lo hi d) e := rfl
@[simp] theorem subK_app (g : M D) (a : D) : subK g a e = (g e).bnd (subK2 a) := bind_app ..
@[simp] theorem subK2_app (a b : D) : subK2 a b e = M.opt (ixD a b) e := rfl
@[simp] theorem consK_app {α : Type} (g : M (List α)) (d : α) : consK g d e = (g e).bnd (consK2 d) := bind_app ..
@[simp] theorem consK2_app {α : Type} (d : α) (ds : List α) : consK2 d ds e = .ok (d :: ds) e := rfl
@[simp] theorem exK_app (d : D) : exK d e = .ok .next e := rfl
@[simp] theorem retK_app (d : D) : retK d e = .ok (.ret d) e := rfl
@[simp] theorem setK_app (i : Nat) (d : D) : setK i d e = if i < e.length then .ok .next (e.set i (some d)) else .bad := rfl
@[simp] theorem intM_int (i : Int) : intM (.int i) e = .ok (some i) e := rfl
@[simp] theorem rng1_int (j : Int) : rng1 (.int j) e = if rngOk j then .ok (rng 0 j.toNat) e else .bad := iteM_app _ _ _ e
@[simp] theorem slotM_at {i : Nat} {d : D} {e : Env} (h : e[i]? = some (some d)) : slotM i e = .ok (lend d) e := by unfold slotM; rw [h]
@[simp] theorem slotX_at {i : Nat} {d : D} {e : Env} (h : e[i]? = some (some d)) : slotX i e = if imm d = true then .ok d e else .ok d (e.set i none) := by unfold slotX; rw [h]
@[simp] theorem slotS_at {i : Nat} {d : D} {e : Env} (h : e[i]? = some (some d)) : slotS false i e = if allF noLk d = true then .ok (share false d) (e.set i (some (share false d))) else .bad := by unfold slotS; rw [h]
end
@[simp] theorem itL_str (x : Str) (e : Env) : itL false (.str x) e = .ok (chars x) e := rfl
/-! ### pieces -/
section
variable (s : Sm) (e : Env) (a b c t r k v tg it ts el lo hi o : CE) (op : Operator) (cp o1 o2 : CmpOp) (i n : Nat)
theorem bnd_bind {α β : Type} (f : M α) (g : α → M β) (e : Env) : (f.bind g) e = (f e).bnd g := bind_app f g e
@[simp] def isV : CE → Bool
  | .bin _ _ _ => true | .call _ _ => true | .blt _ _ => true | .met _ _ _ => true | .lst _ => true | .tup _ => true | .sli _ _ _ => true | .lc _ _ _ _ _ => true | .dnew => true | .disp _ => true
  | _ => false
@[simp] def isTs : CE → Bool
  | .cmp _ _ _ => true | .chn _ _ _ _ _ => true | .nt _ => true | .an _ _ => true | .ro _ _ => true
  | _ => false
@[simp] def isW : CE → Bool
  | .cN => true | .cB _ => true | .cI _ => true | .cT _ => true | .ty _ => true | .sub _ _ => true
  | _ => false
theorem mkV_W (v : M D) : (mkV v).W e = (v e).bnd lendK := bind_app v lendK e
theorem mkV_T (v : M D) : (mkV v).T e = ((mkV v).W e).bnd truM := bind_app (v.bind lendK) truM e
theorem mkV_I (v : M D) : (mkV v).I e = (v e).bnd (itL false) := bind_app ..
theorem mkT_W (v : M D) (t : M Bool) : (mkT v t).W e = (v e).bnd lendK := bind_app v lendK e
theorem mkT_I (v : M D) (t : M Bool) : (mkT v t).I e = (v e).bnd (itL false) := bind_app ..
theorem mkW_V (v : M D) : (mkW v).V e = (v e).bnd immM := bind_app ..
theorem mkW_T (v : M D) : (mkW v).T e = (v e).bnd truM := bind_app ..
theorem mkW_I (v : M D) : (mkW v).I e = ((mkW v).V e).bnd (itL false) := bind_app (v.bind immM) (itL false) e
theorem W_ofV (c : CE) (h : isV c = true) : (sem s c).W e = ((sem s c).V e).bnd lendK := by cases c <;> first | exact mkV_W _ _ | exact absurd h Bool.false_ne_true
theorem T_ofV (c : CE) (h : isV c = true) : (sem s c).T e = ((sem s c).W e).bnd truM := by cases c <;> first | exact mkV_T _ _ | exact absurd h Bool.false_ne_true
theorem I_ofV (c : CE) (h : isV c = true) : (sem s c).I e = ((sem s c).V e).bnd (itL false) := by cases c <;> first | exact mkV_I _ _ | exact absurd h Bool.false_ne_true
theorem Z_ofV (c : CE) (h : isV c = true) : (sem s c).V0 e = (sem s c).V e := by cases c <;> first | rfl | exact absurd h Bool.false_ne_true
theorem W_ofT (c : CE) (h : isTs c = true) : (sem s c).W e = ((sem s c).V e).bnd lendK := by cases c <;> first | exact mkT_W _ _ _ | exact absurd h Bool.false_ne_true
theorem Z_ofT (c : CE) (h : isTs c = true) : (sem s c).V0 e = (sem s c).V e := by cases c <;> first | rfl | exact absurd h Bool.false_ne_true
theorem V_ofW (c : CE) (h : isW c = true) : (sem s c).V e = ((sem s c).W e).bnd immM := by cases c <;> first | exact mkW_V _ _ | exact absurd h Bool.false_ne_true
theorem T_ofW (c : CE) (h : isW c = true) : (sem s c).T e = ((sem s c).W e).bnd truM := by cases c <;> first | exact mkW_T _ _ | exact absurd h Bool.false_ne_true
theorem I_ofW (c : CE) (h : isW c = true) : (sem s c).I e = ((sem s c).V e).bnd (itL false) := by cases c <;> first | exact mkW_I _ _ | exact absurd h Bool.false_ne_true
theorem Z_ofW (c : CE) (h : isW c = true) : (sem s c).V0 e = (sem s c).V e := by cases c <;> first | rfl | exact absurd h Bool.false_ne_true
@[simp] theorem a_binW : (sem s (.bin op a b)).W e = ((sem s (.bin op a b)).V e).bnd lendK := W_ofV s e _ rfl
@[simp] theorem a_binT : (sem s (.bin op a b)).T e = ((sem s (.bin op a b)).W e).bnd truM := T_ofV s e _ rfl
@[simp] theorem a_binI : (sem s (.bin op a b)).I e = ((sem s (.bin op a b)).V e).bnd (itL false) := I_ofV s e _ rfl
@[simp] theorem a_binV0 : (sem s (.bin op a b)).V0 e = (sem s (.bin op a b)).V e := Z_ofV s e _ rfl
@[simp] theorem a_callW : (sem s (.call n a)).W e = ((sem s (.call n a)).V e).bnd lendK := W_ofV s e _ rfl
@[simp] theorem a_callT : (sem s (.call n a)).T e = ((sem s (.call n a)).W e).bnd truM := T_ofV s e _ rfl
@[simp] theorem a_callI : (sem s (.call n a)).I e = ((sem s (.call n a)).V e).bnd (itL false) := I_ofV s e _ rfl
@[simp] theorem a_callV0 : (sem s (.call n a)).V0 e = (sem s (.call n a)).V e := Z_ofV s e _ rfl
@[simp] theorem a_bltW : (sem s (.blt n a)).W e = ((sem s (.blt n a)).V e).bnd lendK := W_ofV s e _ rfl
@[simp] theorem a_bltT : (sem s (.blt n a)).T e = ((sem s (.blt n a)).W e).bnd truM := T_ofV s e _ rfl
@[simp] theorem a_bltI : (sem s (.blt n a)).I e = ((sem s (.blt n a)).V e).bnd (itL false) := I_ofV s e _ rfl
@[simp] theorem a_bltV0 : (sem s (.blt n a)).V0 e = (sem s (.blt n a)).V e := Z_ofV s e _ rfl
@[simp] theorem a_metW : (sem s (.met n o a)).W e = ((sem s (.met n o a)).V e).bnd lendK := W_ofV s e _ rfl
@[simp] theorem a_metT : (sem s (.met n o a)).T e = ((sem s (.met n o a)).W e).bnd truM := T_ofV s e _ rfl
@[simp] theorem a_metI : (sem s (.met n o a)).I e = ((sem s (.met n o a)).V e).bnd (itL false) := I_ofV s e _ rfl
@[simp] theorem a_metV0 : (sem s (.met n o a)).V0 e = (sem s (.met n o a)).V e := Z_ofV s e _ rfl
@[simp] theorem a_lstW : (sem s (.lst a)).W e = ((sem s (.lst a)).V e).bnd lendK := W_ofV s e _ rfl
@[simp] theorem a_lstT : (sem s (.lst a)).T e = ((sem s (.lst a)).W e).bnd truM := T_ofV s e _ rfl
@[simp] theorem a_lstI : (sem s (.lst a)).I e = ((sem s (.lst a)).V e).bnd (itL false) := I_ofV s e _ rfl
@[simp] theorem a_lstV0 : (sem s (.lst a)).V0 e = (sem s (.lst a)).V e := Z_ofV s e _ rfl
@[simp] theorem a_tupW : (sem s (.tup a)).W e = ((sem s (.tup a)).V e).bnd lendK := W_ofV s e _ rfl
@[simp] theorem a_tupT : (sem s (.tup a)).T e = ((sem s (.tup a)).W e).bnd truM := T_ofV s e _ rfl
@[simp] theorem a_tupI : (sem s (.tup a)).I e = ((sem s (.tup a)).V e).bnd (itL false) := I_ofV s e _ rfl
@[simp] theorem a_tupV0 : (sem s (.tup a)).V0 e = (sem s (.tup a)).V e := Z_ofV s e _ rfl
@[simp] theorem a_sliW : (sem s (.sli a lo hi)).W e = ((sem s (.sli a lo hi)).V e).bnd lendK := W_ofV s e _ rfl
@[simp] theorem a_sliT : (sem s (.sli a lo hi)).T e = ((sem s (.sli a lo hi)).W e).bnd truM := T_ofV s e _ rfl
@[simp] theorem a_sliI : (sem s (.sli a lo hi)).I e = ((sem s (.sli a lo hi)).V e).bnd (itL false) := I_ofV s e _ rfl
@[simp] theorem a_sliV0 : (sem s (.sli a lo hi)).V0 e = (sem s (.sli a lo hi)).V e := Z_ofV s e _ rfl
@[simp] theorem a_lcW (own : List Nat) : (sem s (.lc own tg it ts el)).W e = ((sem s (.lc own tg it ts el)).V e).bnd lendK := W_ofV s e _ rfl
@[simp] theorem a_lcT (own : List Nat) : (sem s (.lc own tg it ts el)).T e = ((sem s (.lc own tg it ts el)).W e).bnd truM := T_ofV s e _ rfl
@[simp] theorem a_lcI (own : List Nat) : (sem s (.lc own tg it ts el)).I e = ((sem s (.lc own tg it ts el)).V e).bnd (itL false) := I_ofV s e _ rfl
@[simp] theorem a_lcV0 (own : List Nat) : (sem s (.lc own tg it ts el)).V0 e = (sem s (.lc own tg it ts el)).V e := Z_ofV s e _ rfl
@[simp] theorem a_dnewW : (sem s .dnew).W e = ((sem s .dnew).V e).bnd lendK := W_ofV s e _ rfl
@[simp] theorem a_dnewT : (sem s .dnew).T e = ((sem s .dnew).W e).bnd truM := T_ofV s e _ rfl
@[simp] theorem a_dnewI : (sem s .dnew).I e = ((sem s .dnew).V e).bnd (itL false) := I_ofV s e _ rfl
@[simp] theorem a_dnewV0 : (sem s .dnew).V0 e = (sem s .dnew).V e := Z_ofV s e _ rfl
@[simp] theorem a_dispW : (sem s (.disp a)).W e = ((sem s (.disp a)).V e).bnd lendK := W_ofV s e _ rfl
@[simp] theorem a_dispT : (sem s (.disp a)).T e = ((sem s (.disp a)).W e).bnd truM := T_ofV s e _ rfl
@[simp] theorem a_dispI : (sem s (.disp a)).I e = ((sem s (.disp a)).V e).bnd (itL false) := I_ofV s e _ rfl
@[simp] theorem a_dispV0 : (sem s (.disp a)).V0 e = (sem s (.disp a)).V e := Z_ofV s e _ rfl
@[simp] theorem a_cmpW : (sem s (.cmp cp a b)).W e = ((sem s (.cmp cp a b)).V e).bnd lendK := W_ofT s e _ rfl
@[simp] theorem a_cmpV0 : (sem s (.cmp cp a b)).V0 e = (sem s (.cmp cp a b)).V e := Z_ofT s e _ rfl
@[simp] theorem a_chnW : (sem s (.chn o1 o2 a b c)).W e = ((sem s (.chn o1 o2 a b c)).V e).bnd lendK := W_ofT s e _ rfl
@[simp] theorem a_chnV0 : (sem s (.chn o1 o2 a b c)).V0 e = (sem s (.chn o1 o2 a b c)).V e := Z_ofT s e _ rfl
@[simp] theorem a_ntW : (sem s (.nt a)).W e = ((sem s (.nt a)).V e).bnd lendK := W_ofT s e _ rfl
@[simp] theorem a_ntV0 : (sem s (.nt a)).V0 e = (sem s (.nt a)).V e := Z_ofT s e _ rfl
@[simp] theorem a_anW : (sem s (.an a b)).W e = ((sem s (.an a b)).V e).bnd lendK := W_ofT s e _ rfl
@[simp] theorem a_anV0 : (sem s (.an a b)).V0 e = (sem s (.an a b)).V e := Z_ofT s e _ rfl
@[simp] theorem a_roW : (sem s (.ro a b)).W e = ((sem s (.ro a b)).V e).bnd lendK := W_ofT s e _ rfl
@[simp] theorem a_roV0 : (sem s (.ro a b)).V0 e = (sem s (.ro a b)).V e := Z_ofT s e _ rfl
@[simp] theorem a_cNV : (sem s .cN).V e = ((sem s .cN).W e).bnd immM := V_ofW s e _ rfl
@[simp] theorem a_cNT : (sem s .cN).T e = ((sem s .cN).W e).bnd truM := T_ofW s e _ rfl
@[simp] theorem a_cNI : (sem s .cN).I e = ((sem s .cN).V e).bnd (itL false) := I_ofW s e _ rfl
@[simp] theorem a_cNV0 : (sem s .cN).V0 e = (sem s .cN).V e := Z_ofW s e _ rfl
@[simp] theorem a_cBV (bx : Bool) : (sem s (.cB bx)).V e = ((sem s (.cB bx)).W e).bnd immM := V_ofW s e _ rfl
@[simp] theorem a_cBT (bx : Bool) : (sem s (.cB bx)).T e = ((sem s (.cB bx)).W e).bnd truM := T_ofW s e _ rfl
@[simp] theorem a_cBI (bx : Bool) : (sem s (.cB bx)).I e = ((sem s (.cB bx)).V e).bnd (itL false) := I_ofW s e _ rfl
@[simp] theorem a_cBV0 (bx : Bool) : (sem s (.cB bx)).V0 e = (sem s (.cB bx)).V e := Z_ofW s e _ rfl
@[simp] theorem a_cIV (ix : Int) : (sem s (.cI ix)).V e = ((sem s (.cI ix)).W e).bnd immM := V_ofW s e _ rfl
@[simp] theorem a_cIT (ix : Int) : (sem s (.cI ix)).T e = ((sem s (.cI ix)).W e).bnd truM := T_ofW s e _ rfl
@[simp] theorem a_cII (ix : Int) : (sem s (.cI ix)).I e = ((sem s (.cI ix)).V e).bnd (itL false) := I_ofW s e _ rfl
@[simp] theorem a_cIV0 (ix : Int) : (sem s (.cI ix)).V0 e = (sem s (.cI ix)).V e := Z_ofW s e _ rfl
@[simp] theorem a_cTV (sx : Str) : (sem s (.cT sx)).V e = ((sem s (.cT sx)).W e).bnd immM := V_ofW s e _ rfl
@[simp] theorem a_cTT (sx : Str) : (sem s (.cT sx)).T e = ((sem s (.cT sx)).W e).bnd truM := T_ofW s e _ rfl
@[simp] theorem a_cTI (sx : Str) : (sem s (.cT sx)).I e = ((sem s (.cT sx)).V e).bnd (itL false) := I_ofW s e _ rfl
@[simp] theorem a_cTV0 (sx : Str) : (sem s (.cT sx)).V0 e = (sem s (.cT sx)).V e := Z_ofW s e _ rfl
@[simp] theorem a_tyV (tx : String) : (sem s (.ty tx)).V e = ((sem s (.ty tx)).W e).bnd immM := V_ofW s e _ rfl
@[simp] theorem a_tyT (tx : String) : (sem s (.ty tx)).T e = ((sem s (.ty tx)).W e).bnd truM := T_ofW s e _ rfl
@[simp] theorem a_tyI (tx : String) : (sem s (.ty tx)).I e = ((sem s (.ty tx)).V e).bnd (itL false) := I_ofW s e _ rfl
@[simp] theorem a_tyV0 (tx : String) : (sem s (.ty tx)).V0 e = (sem s (.ty tx)).V e := Z_ofW s e _ rfl
@[simp] theorem a_subV : (sem s (.sub a b)).V e = ((sem s (.sub a b)).W e).bnd immM := V_ofW s e _ rfl
@[simp] theorem a_subT : (sem s (.sub a b)).T e = ((sem s (.sub a b)).W e).bnd truM := T_ofW s e _ rfl
@[simp] theorem a_subI : (sem s (.sub a b)).I e = ((sem s (.sub a b)).V e).bnd (itL false) := I_ofW s e _ rfl
@[simp] theorem a_subV0 : (sem s (.sub a b)).V0 e = (sem s (.sub a b)).V e := Z_ofW s e _ rfl
@[simp] theorem r_nmW : (sem s (.nm i)).W e = slotM i e := rfl
@[simp] theorem r_nmV : (sem s (.nm i)).V e = slotX i e := rfl
@[simp] theorem r_nmZ : (sem s (.nm i)).V0 e = slotX i e := rfl
@[simp] theorem r_nmT : (sem s (.nm i)).T e = (slotM i e).bnd truM := bind_app ..
@[simp] theorem r_nmI : (sem s (.nm i)).I e = (slotS false i e).bnd (itL false) := bind_app ..
@[simp] theorem r_nmP : (sem s (.nm i)).PL e = slotP s.nl i e := rfl
@[simp] theorem r_cN : (sem s .cN).W e = .ok .non e := rfl
@[simp] theorem r_cB (x : Bool) : (sem s (.cB x)).W e = .ok (.bl x) e := rfl
@[simp] theorem r_cI (x : Int) : (sem s (.cI x)).W e = .ok (.int x) e := rfl
@[simp] theorem r_cT (x : Str) : (sem s (.cT x)).W e = .ok (.str x) e := rfl
@[simp] theorem r_ty (x : String) : (sem s (.ty x)).W e = .ok (.ty x) e := rfl
@[simp] theorem r_bin : (sem s (.bin op a b)).V e = ((sem s a).W e).bnd (binK (opD op) (sem s b).W) := bind_app ..
@[simp] theorem r_cmp : (sem s (.cmp cp a b)).V e = ((sem s a).W e).bnd (binK (cmpD cp) (sem s b).W) := bind_app ..
@[simp] theorem r_cmpT : (sem s (.cmp cp a b)).T e = (((sem s a).W e).bnd (binK (cmpD cp) (sem s b).W)).bnd blM := by
  show ((binN _ _ _).bind blM) e = _
  rw [bind_app]
  exact congrArg (fun r => Res.bnd r blM) (bind_app ..)
@[simp] theorem r_chn : (sem s (.chn o1 o2 a b c)).V e = ((sem s a).W e).bnd (chnK (cmpD o1) (cmpD o2) (sem s b).W (sem s c).W) := by
  show chainM _ _ _ _ _ e = _
  rw [chainM_eq]
  exact bind_app ..
@[simp] theorem r_chnT : (sem s (.chn o1 o2 a b c)).T e = (((sem s a).W e).bnd (chnK (cmpD o1) (cmpD o2) (sem s b).W (sem s c).W)).bnd blM := by
  show ((chainM _ _ _ _ _).bind blM) e = _
  rw [bind_app, chainM_eq]
  exact congrArg (fun r => Res.bnd r blM) (bind_app ..)
@[simp] theorem r_nt : (sem s (.nt a)).V e = ((sem s a).W e).bnd notK := by
  show notV _ e = _
  rw [notV_eq]
  exact bind_app ..
@[simp] theorem r_ntT : (sem s (.nt a)).T e = ((sem s a).T e).bnd nK := bind_app ..
@[simp] theorem r_an : (sem s (.an a b)).V e = ((sem s a).W e).bnd (andK (sem s b).V) := bind_app ..
@[simp] theorem r_anT : (sem s (.an a b)).T e = ((sem s a).T e).bnd (andTK (sem s b).T) := bind_app ..
@[simp] theorem r_ro : (sem s (.ro a b)).V e = ((sem s a).W e).bnd (orK (sem s b).V) := by
  show orV _ _ e = _
  rw [orV_eq]
  exact bind_app ..
@[simp] theorem r_roT : (sem s (.ro a b)).T e = ((sem s a).T e).bnd (orTK (sem s b).T) := bind_app ..
@[simp] theorem r_ifxV : (sem s (.ifx t a b)).V e = ((sem s t).T e).bnd (iteK (sem s a).V (sem s b).V) := bind_app ..
@[simp] theorem r_ifxZ : (sem s (.ifx t a b)).V0 e = ((sem s t).T e).bnd (iteK (sem s a).V (sem s b).V) := bind_app ..
@[simp] theorem r_ifxW : (sem s (.ifx t a b)).W e = ((sem s t).T e).bnd (iteK (sem s a).W (sem s b).W) := bind_app ..
@[simp] theorem r_call : (sem s (.call n a)).V e = ((sem s a).AW e).bnd (callK s.fs[n]?) := by
  show s.fn n _ e = _
  unfold Sm.fn callK
  cases s.fs[n]? with
  | none => exact bind_app ..
  | some q => exact bind_app ..
@[simp] theorem r_blt : (sem s (.blt n a)).V e = ((sem s a).AW e).bnd (bltK n) := by
  show bltM n _ e = _
  unfold bltM
  split <;> first | exact bind_app .. | skip
  unfold bltK
  have : bltD n = fun _ => none := by
    unfold bltD
    split <;> first | contradiction | rfl
  rw [this]
  exact bind_app ..
@[simp] theorem r_met : (sem s (.met n o a)).V e = ((sem s o).W e).bnd (metK n (sem s a).W) := by
  show metM n _ _ e = _
  unfold metM
  split <;> first | exact bind_app .. | skip
  unfold metK
  have : metK2 n = fun _ _ => M.bad := by
    funext x y
    unfold metK2
    have : metD n = fun _ _ => none := by
      unfold metD
      split <;> first | contradiction | rfl
    rw [this]; rfl
  rw [this]
  exact bind_app ..
@[simp] theorem r_app : (sem s (.app o a)).V0 e = ((sem s o).PL e).bnd (appK (sem s a).V) := bind_app ..
@[simp] theorem r_lst : (sem s (.lst a)).V e = ((sem s a).AV e).bnd lstK := bind_app ..
@[simp] theorem r_tup : (sem s (.tup a)).V e = ((sem s a).AV e).bnd tupK := bind_app ..
@[simp] theorem r_sli : (sem s (.sli a lo hi)).V e = ((sem s a).W e).bnd (sliK (sem s lo).O (sem s hi).O) := bind_app ..
@[simp] theorem r_sub : (sem s (.sub a b)).W e = ((sem s a).W e).bnd (subK (sem s b).W) := bind_app ..
@[simp] theorem r_lc (own : List Nat) : (sem s (.lc own (.tgn i) it ts el)).V e = ((sem s it).I e).bnd (lcK own (putE false i) (sem s ts).T (sem s el).V) := bind_app ..
@[simp] theorem r_dnew : (sem s .dnew).V e = .ok (.dk .own []) e := rfl
@[simp] theorem r_disp : (sem s (.disp a)).V e = (pairsM (sem s a).P e).bnd dispK := bind_app ..
@[simp] theorem r_nilP : (sem s .nil).P = [] := rfl
@[simp] theorem r_prP : (sem s (.pr k v r)).P = ((sem s k).W, (sem s v).V) :: (sem s r).P := rfl
@[simp] theorem r_nilW : (sem s .nil).AW e = .ok [] e := rfl
@[simp] theorem r_nilV : (sem s .nil).AV e = .ok [] e := rfl
@[simp] theorem r_consW : (sem s (.cons a r)).AW e = ((sem s a).W e).bnd (consK (sem s r).AW) := bind_app ..
@[simp] theorem r_consV : (sem s (.cons a r)).AV e = ((sem s a).V e).bnd (consK (sem s r).AV) := bind_app ..
@[simp] theorem r_on : (sem s .on).O e = .ok none e := rfl
@[simp] theorem r_os : (sem s (.os a)).O e = ((sem s a).W e).bnd intM := bind_app ..
@[simp] theorem r_yes : (sem s .yes).T = M.ret true := rfl
@[simp] theorem r_rng1 : (sem s (.rng1 a)).I e = ((sem s a).W e).bnd rng1 := bind_app ..
@[simp] theorem r_nx : (sem s .nx).S e = .ok .next e := rfl
@[simp] theorem r_ex : (sem s (.ex a)).S e = ((sem s a).V0 e).bnd exK := bind_app ..
@[simp] theorem r_ret : (sem s (.ret a)).S e = ((sem s a).V e).bnd retK := bind_app ..
@[simp] theorem r_retN : (sem s .retN).S e = .ok (.ret .non) e := rfl
@[simp] theorem r_brk : (sem s .brk).S e = .ok .brk e := rfl
@[simp] theorem r_cnt : (sem s .cnt).S e = .ok .cont e := rfl
@[simp] theorem r_ite : (sem s (.ite t a b)).S e = ((sem s t).T e).bnd (iteK (sem s a).S (sem s b).S) := bind_app ..
@[simp] theorem r_set : (sem s (.set i a)).S e = ((sem s a).V0 e).bnd (setK i) := by
  show setM i _ e = _
  unfold setM
  rw [bind_app]
  congr 1
  funext d e'
  rw [bind_app]
  unfold liftT putE setK
  by_cases h : i < e'.length
  · rw [if_pos ⟨h, .inl rfl⟩, if_pos h]; rfl
  · rw [if_neg fun z => h z.1, if_neg h]; rfl
@[simp] theorem r_fr : (sem s (.fr (.tgn i) it b)).S e = ((sem s it).I e).bnd (loopM (putE false i) (sem s b).S) := bind_app ..
@[simp] theorem r_sq : (sem s (.sq a b)).S e = ((sem s a).S e).sq (sem s b).S := by
  show seqM _ _ e = _
  unfold seqM
  rw [bind_app]
  cases (sem s a).S e with
  | ok fl e' => cases fl <;> rfl
  | _ => rfl
@[simp] theorem noexc_app {α : Type} (f : M α) : noexc f e = match f e with | .exc _ _ _ => .bad | r => r := rfl
end
/-! ### operations at values -/
@[simp] theorem opD_add : opD .Add = addD := rfl
@[simp] theorem opD_sub : opD .Sub = subD := rfl
@[simp] theorem opD_mul : opD .Mult = mulD := rfl
@[simp] theorem opD_div : opD .FloorDiv = fdivD := rfl
@[simp] theorem opD_mod : opD .Mod = modD := rfl
@[simp] theorem cmpD_eq : cmpD .Eq = eqD := rfl
@[simp] theorem cmpD_ne : cmpD .NotEq = neD := rfl
@[simp] theorem cmpD_lt : cmpD .Lt = ltD := rfl
@[simp] theorem cmpD_le : cmpD .LtE = leD := rfl
@[simp] theorem cmpD_gt : cmpD .Gt = gtD := rfl
@[simp] theorem cmpD_ge : cmpD .GtE = geD := rfl
@[simp] theorem cmpD_is : cmpD .Is = isD := rfl
@[simp] theorem cmpD_isn : cmpD .IsNot = isnD := rfl
@[simp] theorem cmpD_in : cmpD .In = inD := rfl
@[simp] theorem cmpD_nin : cmpD .NotIn = ninD := rfl
@[simp] theorem addD_int (i j : Int) : addD (.int i) (.int j) = some (.sc (.int (i + j))) := rfl
@[simp] theorem addD_str (x y : Str) : addD (.str x) (.str y) = if x.length + y.length ≤ sizeLine then some (.sc (.str (x ++ y))) else none := rfl
@[simp] theorem subD_int (i j : Int) : subD (.int i) (.int j) = some (.sc (.int (i - j))) := rfl
@[simp] theorem mulD_int (i j : Int) : mulD (.int i) (.int j) = if (-(2 ^ 64) < i ∧ i < 2 ^ 64) ∨ (-(2 ^ 64) < j ∧ j < 2 ^ 64) then some (.sc (.int (i * j))) else none := rfl
@[simp] theorem fdivD_int (i j : Int) : fdivD (.int i) (.int j) = if 0 < j ∧ j < 1073741824 then some (.sc (.int (i / j))) else none := rfl
@[simp] theorem modD_int (i j : Int) : modD (.int i) (.int j) = if 0 < j then some (.sc (.int (i % j))) else none := rfl
@[simp] theorem ltD_int (i j : Int) : ltD (.int i) (.int j) = some (.sc (.bl (decide (i < j)))) := rfl
@[simp] theorem leD_int (i j : Int) : leD (.int i) (.int j) = some (.sc (.bl (decide (i ≤ j)))) := rfl
@[simp] theorem gtD_int (i j : Int) : gtD (.int i) (.int j) = some (.sc (.bl (decide (j < i)))) := rfl
@[simp] theorem geD_int (i j : Int) : geD (.int i) (.int j) = some (.sc (.bl (decide (j ≤ i)))) := rfl
@[simp] theorem isD_non (d : D) : isD d .non = some (.sc (.bl (isNon d))) := rfl
@[simp] theorem isnD_non (d : D) : isnD d .non = some (.sc (.bl (!isNon d))) := rfl
@[simp] theorem ixD_lst (f : Fl) (ds : List D) (i : Int) : ixD (.lst f ds) (.int i) = atI ds i := rfl
@[simp] theorem ixD_tup (ds : List D) (i : Int) : ixD (.tup ds) (.int i) = atI ds i := rfl
@[simp] theorem ixD_str (z : Str) (i : Int) : ixD (.str z) (.int i) = if z.length ≤ sizeLine then (atI z.cps.toList i).map fun c => .str ⟨#[c]⟩ else none := rfl
@[simp] theorem ixD_ks (f : Fl) (ks : List (Key × D)) (x : Str) : ixD (.dk f ks) (.str x) = getA ks (.inr x) := rfl
@[simp] theorem ixD_ki (f : Fl) (ks : List (Key × D)) (x : Int) : ixD (.dk f ks) (.int x) = getA ks (.inl x) := rfl
@[simp] theorem eqD_int (i j : Int) : eqD (.int i) (.int j) = some (.sc (.bl (decide (i = j)))) := rfl
@[simp] theorem eqD_bl (i j : Bool) : eqD (.bl i) (.bl j) = some (.sc (.bl (decide (i = j)))) := rfl
@[simp] theorem eqD_str (i j : Str) : eqD (.str i) (.str j) = some (.sc (.bl (decide (i = j)))) := rfl
@[simp] theorem neD_int (i j : Int) : neD (.int i) (.int j) = some (.sc (.bl (!decide (i = j)))) := rfl
@[simp] theorem neD_bl (i j : Bool) : neD (.bl i) (.bl j) = some (.sc (.bl (!decide (i = j)))) := rfl
@[simp] theorem neD_str (i j : Str) : neD (.str i) (.str j) = some (.sc (.bl (!decide (i = j)))) := rfl
@[simp] theorem inD_str (i j : Str) : inD (.str i) (.str j) = some (.sc (.bl (subS i j))) := rfl
@[simp] theorem ninD_str (i j : Str) : ninD (.str i) (.str j) = some (.sc (.bl (!subS i j))) := rfl
@[simp] theorem len_str (x : Str) : bltD 0 [.str x] = if x.length ≤ sizeLine then some (.sc (.int x.length)) else none := rfl
@[simp] theorem len_lst (f : Fl) (ds : List D) : bltD 0 [.lst f ds] = some (.sc (.int ds.length)) := rfl
@[simp] theorem len_tup (ds : List D) : bltD 0 [.tup ds] = some (.sc (.int ds.length)) := rfl
@[simp] theorem isi_ty (d : D) (t : String) : bltD 1 [d, .ty t] = (tyD d).bind fun u => (kitB u t).map fun b => .sc (.bl b) := rfl
@[simp] theorem min_int (i j : Int) : bltD 2 [.int i, .int j] = some (.sc (.int (if j < i then j else i))) := rfl
@[simp] theorem max_int (i j : Int) : bltD 3 [.int i, .int j] = some (.sc (.int (if j > i then j else i))) := rfl
@[simp] theorem all_lst (f : Fl) (ds : List D) : bltD 4 [.lst f ds] = (blsD ds).map fun bs => .sc (.bl (bs.all id)) := rfl
@[simp] theorem any_lst (f : Fl) (ds : List D) : bltD 5 [.lst f ds] = (blsD ds).map fun bs => .sc (.bl (bs.any id)) := rfl
@[simp] theorem abs_int (i : Int) : bltD 6 [.int i] = some (.sc (.int (if i < 0 then -i else i))) := rfl
@[simp] theorem join_lst (x : Str) (f : Fl) (ds : List D) : metD 0 (.str x) [.lst f ds] = (strsD ds).bind fun ys => if (ys.map (·.length)).sum + ys.length * x.length ≤ bigT then some (.sc (.str (Txt.join x ys))) else none := rfl
@[simp] theorem tyD_bl (b : Bool) : tyD (.bl b) = some "bool" := rfl
@[simp] theorem tyD_int (b : Int) : tyD (.int b) = some "int" := rfl
@[simp] theorem tyD_str (b : Str) : tyD (.str b) = some "str" := rfl
@[simp] theorem tyD_non : tyD .non = some "NoneType" := rfl
@[simp] theorem truM_bl (b : Bool) (e : Env) : truM (.bl b) e = .ok b e := rfl
@[simp] theorem fnRes_ret_bl (b : Bool) (e : Env) : fnRes (.ok (.ret (.bl b)) e) = .ok (.bl b) := rfl
@[simp] theorem fnRes_ret_int (b : Int) (e : Env) : fnRes (.ok (.ret (.int b)) e) = .ok (.int b) := rfl
@[simp] theorem fnRes_ret_str (b : Str) (e : Env) : fnRes (.ok (.ret (.str b)) e) = .ok (.str b) := rfl
@[simp] theorem fnRes_ret_non (e : Env) : fnRes (.ok (.ret .non) e) = .ok .non := rfl
@[simp] theorem fnRes_ite (c : Prop) [Decidable c] (x y : Res Fw) : fnRes (if c then x else y) = if c then fnRes x else fnRes y := by split <;> rfl
end DG

set_option Elab.async false
set_option linter.all false
set_option maxHeartbeats 4000000
/-! DGy: a law's end. -/
namespace DG
open PySem PySem.Spec PyProof.Rows L2
set_option autoImplicit false
def noListB (K : PySem.W.Frag) : Bool := K.all fun p => !(p.2.cls == .type "list")
theorem noList_of {a : Addr} {o : Obj} : ∀ {K : PySem.W.Frag}, noListB K = true → K.lookup a = some o → o.cls ≠ .type "list"
  | [], _, l => by cases l
  | (b, p) :: K, h, l => by
    unfold noListB at h
    rw [List.all_cons, Bool.and_eq_true] at h
    rw [List.lookup_cons] at l
    cases q : (a == b) with
    | true =>
      rw [q] at l
      cases l
      intro e
      have h1 := h.1
      rw [e] at h1
      cases h1
    | false =>
      rw [q] at l
      exact noList_of (K := K) h.2 l
def spLaw (n : Nat) : Sp := fun vs H Q _ => ∃ (a : Addr) (ns : List Int), vs = [.ref a] ∧ Rd H a (.lst (ns.map V.int)) ∧ (∀ b x xs, H b ≠ some (.frz x (.tup xs))) ∧ ns.length ≤ n ∧ (∀ z ∈ ns, Builtin.Int.intBits z ≤ 1048576) ∧ ∀ H', Q (.bl true) H'
theorem ints_rp {z : Zo} {H : Hp} : ∀ ns : List Int, Rp z H (.l (ns.map V.int) (ns.map D.int)) []
  | [] => .nil
  | n :: ns => .cons (A := []) (B := []) (.int n) (ints_rp ns)
theorem law_imp {P : Program} {w : World} {K : PySem.W.Frag} {mg : Str → Option Value} {base : Heap} {k n : Nat} {fa : Addr} {fd : FuncData} {ps : List Str} {F : List D → FRes} (f : FnOk P w K mg base (L2.CX P w) k fa fd ps (spF K mg 1 F))
    (h : ∀ ns : List Int, ns.length ≤ n → (∀ z ∈ ns, Builtin.Int.intBits z ≤ 1048576) → F [.lst .ro (ns.map .int)] = .ok (.bl true)) : FnOk P w K mg base (L2.CX P w) k fa fd ps (spLaw n) := by
  refine f.imp fun vs H Q E ⟨a, ns, e, rd, nf, hl, hb, q⟩ => ?_
  subst e
  refine ⟨[.lst .ro (ns.map .int)], fun _ => False, rfl, rfl, fun _ z => z.elim, nf, fun w hw => ?_, ?_⟩
  · rw [List.mem_singleton.mp (show w ∈ [(V.ref a, D.lst .ro (ns.map .int))] from hw)]
    exact Rp.lst (f := .ro) (A := []) rd (rd_dom rd) (ints_rp ns)
  · rw [h ns hl hb]
    intro _ v H' S' B _ r
    cases r
    exact q H'
theorem walk {l : PySem.W.OpenLaw} {n k : Nat} {q : Program} {loose : List Str} {XP : (Str → Option Value) → Heap → Prop} {YP : World → Heap → Prop} {d : DefRec} {K : Params → PySem.W.Frag} {x : Str}
    (hn : l.most = some n) (hn2 : n ≤ sizeLine) (hdf : d.params.defaults = []) (hr : Room k callerA) (hY : ∀ (w : World) (h : Heap), YP w h → (K w.params).In h) (nl : ∀ w : World, noListB (K w.params) = true)
    (F : ∀ (w : World) (mg : Str → Option Value) (fa : Addr) (h : Heap), (K w.params).In h → h.Ns mainGlobals mg → mg d.name = some (.ref fa) →
      ∃ fd : FuncData, (∀ (s : Shared) (u : Value), BindsTo s fd ⟨[u], []⟩ [(x, u)]) ∧ ∀ base : Heap, (K w.params).In base → base.Ns mainGlobals mg → FnOk l.prog w (K w.params) mg base (L2.CX l.prog w) k fa fd [x] (spLaw n)) :
    PySem.W.WalkO q loose XP YP l.row.toRowW d [] (fun f vs => PySem.call f vs) :=
  L2.walk_ofB (K := K) (CX := fun w => L2.CX l.prog w) (sp := fun _ => spLaw n) hn hn2 hdf hr hY F (fun w H a ns hl hb hO hS => by
    refine ⟨a, ns, rfl, ?_, fun b o xs z => ?_, hl, hb, fun _ => rfl⟩
    · rcases hS with h | ⟨o, its, m, h1, h2, _⟩
      · exact h
      · exact absurd h2 (noList_of (nl w) h1)
    · rcases hO b with h | ⟨o', ys, h⟩ <;> (rw [h] at z; cases z)) fun w H s e s' ⟨a, B, H', cls, d, _, _, _, _, _, _, _, h⟩ => h
/-- a def that may be called -/
theorem fn_mk {P : Program} {w : World} {K : PySem.W.Frag} {mg : Str → Option Value} {base : Heap} {k n : Nat} {x : Str} {F : List D → FRes} {fa : Addr} {fd : FuncData} {ps : List Str} (f : FnOk P w K mg base (L2.CX P w) k fa fd ps (spF K mg n F)) (hm : mg x = some (.ref fa))
    (hk : PySem.W.keepIn K (.ref fa) = true) (hb : Binds K fd ps []) : ∃ fa fd ps, FnOk P w K mg base (L2.CX P w) k fa fd ps (spF K mg n F) ∧ mg x = some (.ref fa) ∧ PySem.W.keepIn K (.ref fa) = true ∧ Binds K fd ps [] := ⟨fa, fd, ps, f, hm, hk, hb⟩
end DG

set_option Elab.async false
set_option linter.all false
set_option maxRecDepth 100000
namespace L
open DG PySem PySem.Spec PyProof.Rows L2 TL
set_option autoImplicit false
def top (i : Nat) : Stmt := PySem.Challenge.pw_digbook_k01_names.main.body.getD i (.Pass ⟨0, 0, 0, 0⟩)
def cf_is_name : Cf := ⟨["thing", "sign"], 1, [], [("LONGEST_NAME", .cI (8)), ("LETTERS", .cT "abcdefghijklmnopqrstuvwxyz")], ["all", "isinstance", "str", "len"]⟩
def c_is_name : CE := (.sq (.ite (.ro (.nt (.blt 1 (.cons (.nm 0) (.cons (.ty "str") .nil)))) (.nt (.chn .LtE .LtE (.cI (1)) (.blt 0 (.cons (.nm 0) .nil)) (.cI (8))))) (.ret (.cB false)) .nx) (.ret (.blt 4 (.cons (.lc [1] (.tgn 1) (.nm 0) .yes (.cmp .In (.nm 1) (.cT "abcdefghijklmnopqrstuvwxyz"))) .nil))))
theorem e_is_name : cDef cf_is_name (top 3) 40 = c_is_name := by decide +kernel
theorem s_is_name : FnScope cf_is_name.N ["thing"] (defScope (top 3)) := fnScope_by (by decide +kernel)
def cf_law_mixed : Cf := ⟨["_law_cell", "_law_k", "_law_one", "_law_two"], 4, [], [], []⟩
def c_law_mixed : CE := (.sq (.set 2 (.bin .Mod (.bin .Mult (.bin .Add (.bin .Add (.bin .Mod (.nm 0) (.cI (1000003))) (.bin .Mult (.cI (7919)) (.nm 1))) (.cI (1))) (.cI (48271))) (.cI (2147483629)))) (.sq (.set 3 (.bin .Mod (.bin .Add (.bin .Mult (.nm 2) (.nm 2)) (.bin .Mult (.bin .Mult (.cI (104729)) (.nm 1)) (.nm 1))) (.cI (2147483587)))) (.ret (.bin .Mod (.bin .Mult (.nm 3) (.nm 3)) (.cI (2147483563))))))
theorem e_law_mixed : cDef cf_law_mixed (top 5) 40 = c_law_mixed := by decide +kernel
theorem s_law_mixed : FnScope cf_law_mixed.N ["_law_cell", "_law_k"] (defScope (top 5)) := fnScope_by (by decide +kernel)
def cf_law_word : Cf := ⟨["_law_cell", "_law_k", "_law_size", "_law_number", "_law_signs", "_law_j"], 6, ["_law_mixed"], [], ["range"]⟩
def c_law_word_b1 : CE := (.sq (.ex (.app (.nm 4) (.sub (.cT "abcdefghijklmnopqrstuvwxyz") (.bin .Mod (.nm 3) (.cI (26)))))) (.set 3 (.bin .FloorDiv (.nm 3) (.cI (26)))))
def c_law_word : CE := (.sq (.set 2 (.sub (.lst (.cons (.bin .Mod (.nm 0) (.cI (11))) (.cons (.bin .Mod (.call 0 (.cons (.nm 0) (.cons (.nm 1) .nil))) (.cI (11))) .nil))) (.bin .Mod (.nm 1) (.cI (2))))) (.sq (.set 3 (.sub (.lst (.cons (.bin .FloorDiv (.nm 0) (.cI (11))) (.cons (.bin .Mult (.bin .Mult (.call 0 (.cons (.nm 0) (.cons (.bin .Add (.nm 1) (.cI (1))) .nil))) (.call 0 (.cons (.nm 0) (.cons (.bin .Add (.nm 1) (.cI (2))) .nil)))) (.call 0 (.cons (.nm 0) (.cons (.bin .Add (.nm 1) (.cI (3))) .nil)))) .nil))) (.bin .Mod (.nm 1) (.cI (2))))) (.sq (.set 4 (.lst .nil)) (.sq (.fr (.tgn 5) (.rng1 (.nm 2)) c_law_word_b1) (.ret (.met 0 (.cT "") (.nm 4)))))))
theorem e_law_word : cDef cf_law_word (top 6) 40 = c_law_word := by decide +kernel
theorem s_law_word : FnScope cf_law_word.N ["_law_cell", "_law_k"] (defScope (top 6)) := fnScope_by (by decide +kernel)
def cf_law_spoilt : Cf := ⟨["_law_word_here", "_law_number", "_law_at"], 3, [], [], ["len"]⟩
def c_law_spoilt : CE := (.sq (.set 2 (.bin .Mod (.nm 1) (.blt 0 (.cons (.nm 0) .nil)))) (.ret (.bin .Add (.bin .Add (.sli (.nm 0) .on (.os (.nm 2))) (.sub (.cT ⟨#[65, 90, 48, 57, 32, 46, 44, 95, 45, 64, 91, 123, 35, 10]⟩) (.bin .Mod (.bin .FloorDiv (.nm 1) (.cI (10))) (.cI (14))))) (.sli (.nm 0) (.os (.bin .Add (.nm 2) (.cI (1)))) .on))))
theorem e_law_spoilt : cDef cf_law_spoilt (top 7) 40 = c_law_spoilt := by decide +kernel
theorem s_law_spoilt : FnScope cf_law_spoilt.N ["_law_word_here", "_law_number"] (defScope (top 7)) := fnScope_by (by decide +kernel)
def cf_law_right : Cf := ⟨["_law_thing", "_law_due", "_law_found"], 3, ["is_name"], [], ["isinstance", "bool"]⟩
def c_law_right : CE := (.sq (.set 2 (.call 0 (.cons (.nm 0) .nil))) (.ret (.an (.blt 1 (.cons (.nm 2) (.cons (.ty "bool") .nil))) (.cmp .Eq (.nm 2) (.nm 1)))))
theorem e_law_right : cDef cf_law_right (top 8) 40 = c_law_right := by decide +kernel
theorem s_law_right : FnScope cf_law_right.N ["_law_thing", "_law_due"] (defScope (top 8)) := fnScope_by (by decide +kernel)
def cf_law : Cf := ⟨["_law_script", "_law_k", "_law_word_here", "_law_number", "_law_odd"], 5, ["_law_word", "_law_mixed", "_law_right", "_law_spoilt"], [], ["range", "min", "len"]⟩
def c_law_b1 : CE := (.sq (.set 2 (.call 0 (.cons (.sub (.nm 0) (.nm 1)) (.cons (.nm 1) .nil)))) (.sq (.set 3 (.call 1 (.cons (.sub (.nm 0) (.nm 1)) (.cons (.bin .Add (.cI (60)) (.nm 1)) .nil)))) (.sq (.ite (.nt (.call 2 (.cons (.nm 2) (.cons (.chn .LtE .LtE (.cI (1)) (.blt 0 (.cons (.nm 2) .nil)) (.cI (8))) .nil)))) (.ret (.cB false)) .nx) (.sq (.ite (.an (.cmp .NotEq (.nm 2) (.cT "")) (.nt (.call 2 (.cons (.call 3 (.cons (.nm 2) (.cons (.nm 3) .nil))) (.cons (.cB false) .nil))))) (.ret (.cB false)) .nx) (.sq (.set 4 (.lst (.cons .cN (.cons (.cI (5)) (.cons (.cB true) (.cons (.lst (.cons (.cT "a") .nil)) (.cons (.tup (.cons (.cT "a") .nil)) (.cons .dnew (.cons (.disp (.pr (.cT "a") (.cI (1)) .nil)) (.cons (.cI (0)) (.cons (.lst (.cons (.cT "north") .nil)) (.cons (.tup (.cons (.cT "n") (.cons (.cT "o") .nil))) .nil)))))))))))) (.ite (.nt (.call 2 (.cons (.sub (.nm 4) (.bin .Mod (.nm 3) (.cI (10)))) (.cons (.cB false) .nil)))) (.ret (.cB false)) .nx))))))
def c_law : CE := (.sq (.fr (.tgn 1) (.rng1 (.blt 2 (.cons (.blt 0 (.cons (.nm 0) .nil)) (.cons (.cI (50)) .nil)))) c_law_b1) (.ret (.an (.call 2 (.cons (.cT "") (.cons (.cB false) .nil))) (.an (.call 2 (.cons (.cT "abcdefgh") (.cons (.cB true) .nil))) (.call 2 (.cons (.cT "abcdefghi") (.cons (.cB false) .nil)))))))
theorem e_law : cDef cf_law (top 9) 40 = c_law := by decide +kernel
theorem s_law : FnScope cf_law.N ["_law_script"] (defScope (top 9)) := fnScope_by (by decide +kernel)
def F_law_mixed : List D → FRes := fnRun 4 (sem ⟨4, []⟩ c_law_mixed).S
def F_law_word : List D → FRes := fnRun 6 (sem ⟨6, [(2, F_law_mixed)]⟩ c_law_word).S
def F_is_name : List D → FRes := fnRun 2 (sem ⟨1, []⟩ c_is_name).S
def F_law_right : List D → FRes := fnRun 3 (sem ⟨3, [(1, F_is_name)]⟩ c_law_right).S
def F_law_spoilt : List D → FRes := fnRun 3 (sem ⟨3, []⟩ c_law_spoilt).S
def F_law : List D → FRes := fnRun 5 (sem ⟨5, [(2, F_law_word), (2, F_law_mixed), (2, F_law_right), (2, F_law_spoilt)]⟩ c_law).S
end L

set_option Elab.async false
set_option linter.all false
set_option maxRecDepth 100000
namespace L
open DG PySem PySem.Spec PyProof.Rows L2 TL
set_option autoImplicit false
theorem line_ge {n : Nat} (h : n ≤ 1000000) : n ≤ sizeLine := Nat.le_trans h (by decide)
theorem line_gt {n : Nat} (h : n ≤ 1000000) : n < sizeLine := Nat.lt_of_le_of_lt h (by decide)
def abc : Str := "abcdefghijklmnopqrstuvwxyz"
def low (c : Nat) : Bool := decide (97 ≤ c ∧ c ≤ 122)
def nameB (x : Str) : Bool := decide (1 ≤ x.length) && decide (x.length ≤ 8) && x.cps.toList.all low
theorem abc_list : abc.cps.toList = [97, 98, 99, 100, 101, 102, 103, 104, 105, 106, 107, 108, 109, 110, 111, 112, 113, 114, 115, 116, 117, 118, 119, 120, 121, 122] := by decide +kernel
theorem sub_abc (c : Nat) : subS ⟨#[c]⟩ abc = low c := by
  have h : subS ⟨#[c]⟩ abc = decide (c ∈ abc.cps.toList) := PySem.StrLaws.found_one abc c
  rw [h, abc_list]
  unfold low
  congr 1
  simp only [List.mem_cons, List.not_mem_nil, or_false, eq_iff_iff]
  omega
theorem is_name_str (x : Str) (hx : x.length ≤ 1000) : F_is_name [.str x] = .ok (.bl (nameB x)) := by
  have hs : x.length ≤ sizeLine := line_ge (by omega)
  have habc : Str.ofString "abcdefghijklmnopqrstuvwxyz" = abc := rfl
  have hlc : ∀ e : DG.Env, e = [some (D.str x), none] → lcLoop [1] (putE false 1) (M.ret true) (sem ⟨1, []⟩ (.cmp .In (.nm 1) (.cT "abcdefghijklmnopqrstuvwxyz"))).V (chars x) [] e = .ok (.lst .own (x.cps.toList.map fun c => .bl (low c))) e := by
    rintro _ rfl
    unfold chars
    rw [lcLoop_map1 _ (fun c => .bl (low c)) x.cps.toList (line_ge (by have : x.cps.toList.length = x.length := rfl; omega)) rfl]
    intro c hc
    exact ⟨_, rfl, [some (D.str x), some (.str ⟨#[c]⟩)], by simp [lend, habc, sub_abc], rfl⟩
  have hb : blsD (x.cps.toList.map fun c => .bl (low c)) = some (x.cps.toList.map low) := blsD_map low _
  have hi : mapFL (fun _ => Fl.ro) (x.cps.toList.map fun c => D.bl (low c)) = x.cps.toList.map fun c => D.bl (low c) := lendL_map _ _ (fun _ => rfl) _
  unfold nameB
  simp [F_is_name, fnRun, c_is_name, lend, kitB, hs, share, mapF, allF, lcK, hlc, hi, hb]
  by_cases h1 : 1 ≤ x.length
  · by_cases h2 : x.length ≤ 8
    · rw [if_pos (by omega), if_neg (by omega)]
      simp [h1, h2]
    · rw [if_pos (by omega), if_pos (by omega)]
      simp [h1, h2]
  · rw [if_neg (by omega)]
    simp [h1]
theorem is_name_odd (d : D) (t : String) (h : tyD (mapF (fun _ => Fl.ro) d) = some t) (hk : kitB t "str" = some false) : F_is_name [d] = .ok (.bl false) := by
  simp [F_is_name, fnRun, c_is_name, lend, h, hk]
def mix1 (a k : Int) : Int := (a % 1000003 + 7919 * k + 1) * 48271 % 2147483629
def mix2 (a k : Int) : Int := (mix1 a k * mix1 a k + 104729 * k * k) % 2147483587
def mix (a k : Int) : Int := mix2 a k * mix2 a k % 2147483563
theorem mix1_lt (a k : Int) : 0 ≤ mix1 a k ∧ mix1 a k < 2147483629 := by unfold mix1; omega
theorem mix2_lt (a k : Int) : 0 ≤ mix2 a k ∧ mix2 a k < 2147483587 := by unfold mix2; omega
theorem mix_lt (a k : Int) : 0 ≤ mix a k ∧ mix a k < 2147483563 := by unfold mix; omega
theorem mixed_ok (a k : Int) (h1 : -1000 ≤ k) (h2 : k ≤ 1000000) : F_law_mixed [.int a, .int k] = .ok (.int (mix a k)) := by
  have c1 : -18446744073709551616 < mix1 a k ∧ mix1 a k < 18446744073709551616 := by have := mix1_lt a k; omega
  have c2 : -18446744073709551616 < mix2 a k ∧ mix2 a k < 18446744073709551616 := by have := mix2_lt a k; omega
  have c3 : -18446744073709551616 < k ∧ k < 18446744073709551616 := by omega
  have e1 : (a % 1000003 + 7919 * k + 1) * 48271 % 2147483629 = mix1 a k := rfl
  have e2 : (mix1 a k * mix1 a k + 104729 * k * k) % 2147483587 = mix2 a k := rfl
  have e3 : mix2 a k * mix2 a k % 2147483563 = mix a k := rfl
  simp [F_law_mixed, fnRun, c_law_mixed, lend, imm, allF, e1, c1, e2, c2, c3, e3]

theorem atI_get {α : Type} {xs : List α} {i : Int} {x : α} (h0 : 0 ≤ i) (h : xs[i.toNat]? = some x) : atI xs i = some x := by
  have hl := (List.getElem?_eq_some_iff.mp h).1
  unfold atI ixN
  rw [if_pos h0, if_pos (by omega)]
  exact h
theorem abc_at (i : Int) (h0 : 0 ≤ i) (h1 : i < 26) : atI abc.cps.toList i = some (97 + i.toNat) := by
  refine atI_get h0 ?_
  rw [abc_list]
  have : i.toNat < 26 := by omega
  generalize i.toNat = n at this
  have : ∀ n < 26, ([97, 98, 99, 100, 101, 102, 103, 104, 105, 106, 107, 108, 109, 110, 111, 112, 113, 114, 115, 116, 117, 118, 119, 120, 121, 122] : List Nat)[n]? = some (97 + n) := by decide
  exact this n ‹_›
theorem joinL_one : ∀ l : List Nat, joinL [] (l.map fun c => [c]) = l
  | [] => rfl
  | [c] => rfl
  | c :: d :: l => by
    show [c] ++ ([] ++ joinL [] ((d :: l).map fun c => [c])) = _
    rw [joinL_one (d :: l)]
    rfl
theorem join_one (l : List Nat) : Txt.join (Str.ofString "") (l.map fun c => ⟨#[c]⟩) = ⟨l.toArray⟩ := by
  have h : tl (Txt.join (Str.ofString "") (l.map fun c => ⟨#[c]⟩)) = l := by
    rw [join_eq, tl_join, List.map_map]
    have : (tl ∘ fun c => (⟨#[c]⟩ : Str)) = fun c => [c] := rfl
    rw [this]
    exact joinL_one l
  generalize Txt.join (Str.ofString "") (l.map fun c => ⟨#[c]⟩) = z at h
  cases z with
  | mk c =>
    have h : c.toList = l := h
    rw [← h]
def one (c : Nat) : Str := ⟨#[c]⟩
theorem sumlen (l : List Nat) : ((l.map one).map (·.length)).sum = l.length := by
  induction l with
  | nil => rfl
  | cons c l ih => rw [List.map_cons, List.map_cons, List.sum_cons, ih, List.length_cons]; show 1 + _ = _; omega
theorem word_ok (a k : Int) (h1 : 0 ≤ k) (h2 : k ≤ 1000) : ∃ w : Str, F_law_word [.int a, .int k] = .ok (.str w) ∧ w.length ≤ 10 ∧ w.cps.toList.all low = true := by
  have m0 := mixed_ok a k (by omega) (by omega)
  have m1 := mixed_ok a (k + 1) (by omega) (by omega)
  have m2 := mixed_ok a (k + 2) (by omega) (by omega)
  have m3 := mixed_ok a (k + 3) (by omega) (by omega)
  have c1 : -18446744073709551616 < mix a (k + 1) ∧ mix a (k + 1) < 18446744073709551616 := by have := mix_lt a (k + 1); omega
  have c3 : -18446744073709551616 < mix a (k + 3) ∧ mix a (k + 3) < 18446744073709551616 := by have := mix_lt a (k + 3); omega
  -- the size and the number
  obtain ⟨sz, hsz, s1, s2⟩ : ∃ sz : Int, atI [D.int (a % 11), D.int (mix a k % 11)] (k % 2) = some (.int sz) ∧ 0 ≤ sz ∧ sz ≤ 10 := by
    rcases (show k % 2 = 0 ∨ k % 2 = 1 by omega) with h | h
    · exact ⟨a % 11, by rw [h]; rfl, by omega, by omega⟩
    · exact ⟨mix a k % 11, by rw [h]; rfl, by omega, by omega⟩
  obtain ⟨nb, hnb⟩ : ∃ nb : Int, atI [D.int (a / 11), D.int (mix a (k + 1) * mix a (k + 2) * mix a (k + 3))] (k % 2) = some (.int nb) := by
    rcases (show k % 2 = 0 ∨ k % 2 = 1 by omega) with h | h
    · exact ⟨a / 11, by rw [h]; rfl⟩
    · exact ⟨_, by rw [h]; rfl⟩
  have habc : Str.ofString "abcdefghijklmnopqrstuvwxyz" = abc := rfl
  have hline : abc.length ≤ sizeLine := line_ge (by decide +kernel)
  -- the loop
  obtain ⟨e', hl, hI⟩ := loopM_all (ft := putE false 5) (body := (sem ⟨6, [(2, F_law_mixed)]⟩ c_law_word_b1).S)
    (rng 0 sz.toNat) (fun i e => ∃ (nb : Int) (l : List Nat) (j : Option D), e = [some (.int a), some (.int k), some (.int sz), some (.int nb), some (.lst .own (l.map fun c => .str (one c))), j] ∧ l.length = i ∧ l.all low = true)
    [some (.int a), some (.int k), some (.int sz), some (.int nb), some (.lst .own []), none] ⟨nb, [], none, rfl, rfl, rfl⟩ (fun i d e hd ⟨nb, l, j, he, hlen, hlow⟩ => by
      subst he
      have hi : i < sz.toNat := by
        have := (List.getElem?_eq_some_iff.mp hd).1
        simpa [rng] using this
      have hat := abc_at (nb % 26) (by omega) (by omega)
      have hll : l.length < sizeLine := line_gt (by omega)
      refine ⟨_, _, rfl, .inl ?_, nb / 26, l ++ [97 + (nb % 26).toNat], some d, rfl, by simp [hlen], ?_⟩
      · simp [c_law_word_b1, slotP, appK, appK2, atP, getP, setAt, setP, hline, hat, habc, lend, hll, one, imm, allF]
      · simp only [List.all_append, hlow, List.all_cons, List.all_nil, Bool.and_true, Bool.true_and, low, decide_eq_true_eq]
        omega)
  obtain ⟨nb', l, j, rfl, hlen, hlow⟩ := hI
  have hlen : l.length ≤ 10 := by
    rw [hlen]
    simp [rng]
    omega
  refine ⟨⟨l.toArray⟩, ?_, by show l.toArray.size ≤ 10; simpa using hlen, by simpa using hlow⟩
  have two : 2 ≤ sizeLine := line_ge (by omega)
  have hrk : rngOk sz := by unfold rngOk; omega
  have hst : strsD (l.map fun c => D.str (one c)) = some (l.map one) := strsD_map one l
  have hsum : (l.map ((fun x => x.length) ∘ one)).sum = l.length := by have := sumlen l; rwa [List.map_map] at this
  have hbig : l.length ≤ bigT := by unfold bigT; omega
  have hlnd : mapFL (fun _ => Fl.ro) (l.map fun c => D.str (one c)) = l.map fun c => D.str (one c) := lendL_map _ _ (fun _ => rfl) _
  have hj : Txt.join (Str.ofString "") (l.map one) = ⟨l.toArray⟩ := join_one l
  have h0 : (Str.ofString "").length = 0 := rfl
  simp [F_law_word, fnRun, c_law_word, lend, imm, allF, allFL, mapFL, m0, m1, m2, m3, c1, c3, two, hsz, hnb, hrk, hl, hlnd, hst, hsum, h0, hbig, hj]
theorem right_ok (d : D) (b c : Bool) (h : F_is_name [mapF (fun _ => Fl.ro) d] = .ok (.bl c)) : F_law_right [d, .bl b] = .ok (.bl (decide (c = b))) := by
  simp [F_law_right, fnRun, c_law_right, lend, imm, allF, h, kitB]
def odd14 : Str := ⟨#[65, 90, 48, 57, 32, 46, 44, 95, 45, 64, 91, 123, 35, 10]⟩
theorem odd_at (i : Int) (h0 : 0 ≤ i) (h1 : i < 14) : ∃ c, atI odd14.cps.toList i = some c ∧ low c = false := by
  have : ∀ n < 14, ∃ c, ([65, 90, 48, 57, 32, 46, 44, 95, 45, 64, 91, 123, 35, 10] : List Nat)[n]? = some c ∧ low c = false := by decide
  obtain ⟨c, h, h2⟩ := this i.toNat (by omega)
  exact ⟨c, atI_get h0 h, h2⟩
theorem spoilt_ok (w : Str) (n : Int) (h1 : 1 ≤ w.length) (h2 : w.length ≤ 10) : ∃ r : Str, F_law_spoilt [.str w, .int n] = .ok (.str r) ∧ r.length ≤ 100 ∧ nameB r = false := by
  obtain ⟨c, hc, hlow⟩ := odd_at (n / 10 % 14) (by omega) (by omega)
  have hw : w.length ≤ sizeLine := line_ge (by omega)
  have ho : odd14.length ≤ sizeLine := line_ge (by decide +kernel)
  have e14 : (⟨#[65, 90, 48, 57, 32, 46, 44, 95, 45, 64, 91, 123, 35, 10]⟩ : Str) = odd14 := rfl
  have hpos : 0 < w.length := h1
  have cl : ∀ lo hi, (cutS w lo hi).length ≤ 10 := fun lo hi => by
    show (((w.cps.toList.drop _).take _).toArray).size ≤ 10
    rw [List.size_toArray, List.length_take, List.length_drop]
    have : w.cps.toList.length = w.length := rfl
    omega
  have l1 := cl none (some (n % w.length))
  have l2 := cl (some (n % w.length + 1)) none
  have la : ∀ a b : Str, (a ++ b).length = a.length + b.length := fun a b => Array.size_append
  have lc : (⟨#[c]⟩ : Str).length = 1 := rfl
  refine ⟨cutS w none (some (n % w.length)) ++ ⟨#[c]⟩ ++ cutS w (some (n % w.length + 1)) none, ?_, ?_, ?_⟩
  · have k1 : (cutS w none (some (n % w.length))).length + (⟨#[c]⟩ : Str).length ≤ sizeLine := line_ge (by rw [lc]; omega)
    have k2 : (cutS w none (some (n % w.length)) ++ ⟨#[c]⟩).length + (cutS w (some (n % w.length + 1)) none).length ≤ sizeLine := line_ge (by rw [la, lc]; omega)
    simp [F_law_spoilt, fnRun, c_law_spoilt, lend, imm, allF, hw, ho, e14, hc, hpos, sliceD, k1, k2]
  · rw [la, la, lc]; omega
  · have : (cutS w none (some (n % w.length)) ++ ⟨#[c]⟩ ++ cutS w (some (n % w.length + 1)) none).cps.toList.all low = false := by
      show ((cutS w none (some (n % w.length))).cps ++ #[c] ++ (cutS w (some (n % w.length + 1)) none).cps).toList.all low = false
      simp [hlow]
    unfold nameB
    rw [this, Bool.and_false]
def odds : List D := [.non, .int 5, .bl true, .lst .ro [.str "a"], .tup [.str "a"], .dk .ro [], .dk .ro [(.inr "a", .int 1)], .int 0, .lst .ro [.str "north"], .tup [.str "n", .str "o"]]
theorem odds_ok (j : Int) (h0 : 0 ≤ j) (h1 : j < 10) : ∃ d, atI odds j = some d ∧ F_law_right [d, .bl false] = .ok (.bl true) := by
  have key : ∀ (d : D) (t : String), tyD (mapF (fun _ => Fl.ro) (mapF (fun _ => Fl.ro) d)) = some t → kitB t "str" = some false → F_law_right [d, .bl false] = .ok (.bl true) := fun d t h hk => by
    rw [right_ok d false false (is_name_odd _ t h hk)]
    rfl
  have hj : j = 0 ∨ j = 1 ∨ j = 2 ∨ j = 3 ∨ j = 4 ∨ j = 5 ∨ j = 6 ∨ j = 7 ∨ j = 8 ∨ j = 9 := by omega
  rcases hj with rfl | rfl | rfl | rfl | rfl | rfl | rfl | rfl | rfl | rfl
  · exact ⟨_, rfl, key _ "NoneType" rfl rfl⟩
  · exact ⟨_, rfl, key _ "int" rfl rfl⟩
  · exact ⟨_, rfl, key _ "bool" rfl rfl⟩
  · exact ⟨_, rfl, key _ "list" rfl rfl⟩
  · exact ⟨_, rfl, key _ "tuple" rfl rfl⟩
  · exact ⟨_, rfl, key _ "dict" rfl rfl⟩
  · exact ⟨_, rfl, key _ "dict" rfl rfl⟩
  · exact ⟨_, rfl, key _ "int" rfl rfl⟩
  · exact ⟨_, rfl, key _ "list" rfl rfl⟩
  · exact ⟨_, rfl, key _ "tuple" rfl rfl⟩
theorem str_nil {w : Str} (h : w.length = 0) : w = Str.ofString "" := by
  cases w with
  | mk c =>
    have : c = #[] := Array.eq_empty_of_size_eq_zero h
    subst this
    rfl
theorem law_ok (ns : List Int) (h : ns.length ≤ 63) : F_law [.lst .ro (ns.map .int)] = .ok (.bl true) := by
  have hlen : (ns.map D.int).length = ns.length := List.length_map _
  have hnl : mapFL (fun _ => Fl.ro) (ns.map D.int) = ns.map D.int := lendL_map _ _ (fun _ => rfl) _
  have ten : 10 ≤ sizeLine := line_ge (by omega)
  have oneL : 1 ≤ sizeLine := line_ge (by omega)
  have twoL : 2 ≤ sizeLine := line_ge (by omega)
  obtain ⟨e', hl, hI⟩ := loopM_all (ft := putE false 1) (body := (sem ⟨5, [(2, F_law_word), (2, F_law_mixed), (2, F_law_right), (2, F_law_spoilt)]⟩ c_law_b1).S)
    (rng 0 (if 50 < (ns.length : Int) then 50 else (ns.length : Int)).toNat) (fun i e => ∃ a b c d : Option D, e = [some (.lst .ro (ns.map .int)), a, b, c, d])
    [some (.lst .ro (ns.map .int)), none, none, none, none] ⟨_, _, _, _, rfl⟩ (fun i d e hd ⟨a, b, c, d', he⟩ => by
      subst he
      have hi : i < (if 50 < (ns.length : Int) then 50 else (ns.length : Int)).toNat := by
        have := (List.getElem?_eq_some_iff.mp hd).1
        simpa [rng] using this
      rw [rng_get, if_pos hi] at hd
      have hi2 : i < ns.length ∧ i < 50 := by split at hi <;> omega
      obtain rfl : d = .int i := by simpa using hd.symm
      have hat : atI (ns.map D.int) (i : Int) = some (.int ns[i]) := atI_get (by omega) (by simp [hi2.1])
      obtain ⟨w, hw, wl, wlow⟩ := word_ok ns[i] i (by omega) (by omega)
      have hm := mixed_ok ns[i] (60 + i) (by omega) (by omega)
      have mlt := mix_lt ns[i] (60 + i)
      generalize mix ns[i] (60 + i) = m at hm mlt
      have hs := is_name_str w (by omega)
      obtain ⟨od, hod, hodr⟩ := odds_ok (m % 10) (by omega) (by omega)
      have hwl : w.length ≤ sizeLine := line_ge (by omega)
      have hodds : [D.non, .int 5, .bl true, .lst .ro [.str "a"], .tup [.str "a"], .dk .ro [], .dk .ro [(.inr "a", .int 1)], .int 0, .lst .ro [.str "north"], .tup [.str "n", .str "o"]] = odds := rfl
      have hkn : ([(Sum.inr (Str.ofString "a"), D.int 1)] : List (Key × D)).length ≤ 15 := by decide
      refine ⟨_, [some (.lst .ro (ns.map .int)), some (.int i), some (.str w), some (.int m), some (.lst .own [.non, .int 5, .bl true, .lst .own [.str "a"], .tup [.str "a"], .dk .own [], .dk .own [(.inr "a", .int 1)], .int 0, .lst .own [.str "north"], .tup [.str "n", .str "o"]])], rfl, .inl ?_, _, _, _, _, rfl⟩
      by_cases hz : w.length = 0
      · have hr : F_law_right [.str w, .bl false] = .ok (.bl true) := by
          rw [right_ok (.str w) false (nameB w) hs]
          have : nameB w = false := by unfold nameB; rw [hz]; rfl
          rw [this]; rfl
        have hwe := str_nil hz
        subst hwe
        simp [c_law_b1, lend, imm, allF, allFL, mapFL, mapFK, hnl, hat, hw, hm, hwl, hz, hr, pairsM, keyD, dispK, ten, oneL, twoL, hodds, hod, hodr]
      · have hb1 : (1 : Int) ≤ w.length := by omega
        have hr : F_law_right [.str w, .bl (decide ((w.length : Int) ≤ 8))] = .ok (.bl true) := by
          rw [right_ok (.str w) _ (nameB w) hs]
          have : nameB w = decide ((w.length : Int) ≤ 8) := by
            unfold nameB
            rw [wlow, Bool.and_true, decide_eq_true (by omega : 1 ≤ w.length), Bool.true_and]
            exact decide_eq_decide.mpr (by omega)
          rw [this]
          simp
        have hwe : w ≠ Str.ofString "" := fun z => hz (by rw [z]; rfl)
        obtain ⟨r, hsp, rl, rn⟩ := spoilt_ok w m (by omega) wl
        have hrr : F_law_right [.str r, .bl false] = .ok (.bl true) := by
          rw [right_ok (.str r) false (nameB r) (is_name_str r (by omega)), rn]; rfl
        simp [c_law_b1, lend, imm, allF, allFL, mapFL, mapFK, hnl, hat, hw, hm, hwl, hb1, hr, hwe, pairsM, keyD, dispK, ten, oneL, twoL, hodds, hod, hodr, hsp, hrr]
        )
  obtain ⟨a, b, c, d, rfl⟩ := hI
  have hrk : rngOk (if 50 < (ns.length : Int) then 50 else (ns.length : Int)) := by unfold rngOk; split <;> omega
  have r1 : F_law_right [.str "", .bl false] = .ok (.bl true) := by rw [right_ok (.str "") _ _ (is_name_str "" (by decide +kernel))]; rfl
  have r2 : F_law_right [.str "abcdefgh", .bl true] = .ok (.bl true) := by
    rw [right_ok (.str "abcdefgh") _ _ (is_name_str "abcdefgh" (by decide +kernel)), show nameB "abcdefgh" = true by decide +kernel]; rfl
  have r3 : F_law_right [.str "abcdefghi", .bl false] = .ok (.bl true) := by
    rw [right_ok (.str "abcdefghi") _ _ (is_name_str "abcdefghi" (by decide +kernel)), show nameB "abcdefghi" = false by decide +kernel]; rfl
  simp [F_law, fnRun, c_law, lend, imm, allF, hnl, hrk, hl, r1, r2, r3]
end L

set_option Elab.async false
set_option linter.all false
set_option maxRecDepth 100000
namespace L
open DG PySem PySem.Spec PyProof.Rows L2 TL
set_option autoImplicit false
theorem lookup_mem {α : Type} {x : Str} {c : α} {l : List (Str × α)} (h : l.lookup x = some c) : (x, c) ∈ l := PySem.mem_of_lookup h
theorem all_mk {P : Program} {w : World} {K : PySem.W.Frag} {h : Heap} {mg : Str → Option Value} {fa f0 f1 f2 f3 f4 f5 : Addr} (X : K.In h) (G : h.Ns mainGlobals mg) (hfa : mg "law" = some (.ref fa))
    {od0 an0 od1 an1 od2 an2 od3 an3 od4 an4 od5 an5 : Option Addr} {sl0 sl1 sl2 sl3 sl4 sl5 : Array (Option Value)} {oc0 kV0 dc0 pm0 cd0 ct0 oc1 kV1 dc1 pm1 cd1 ct1 oc2 kV2 dc2 pm2 cd2 ct2 oc3 kV3 dc3 pm3 cd3 ct3 oc4 kV4 dc4 pm4 cd4 ct4 oc5 kV5 dc5 pm5 cd5 ct5 : Value} {tk0 tk1 : Tok}
    (a0 : PySem.W.nsIn K mainGlobals "_law_mixed" = some (some (.ref f0))) (l0 : K.lookup f0 = some ⟨oc0, od0, .func (PySem.W.fnOf "_law_mixed" "_law_mixed" (defArgs (top 5)) (defBody (top 5)) (defScope (top 5)) .none kV0 dc0 pm0 an0 cd0 ct0), sl0⟩) (c0 : PySem.W.codeIn K cd0 "_law_mixed" = true) (k0 : PySem.W.keepIn K (.ref f0) = true)
    (a1 : PySem.W.nsIn K mainGlobals "_law_word" = some (some (.ref f1))) (l1 : K.lookup f1 = some ⟨oc1, od1, .func (PySem.W.fnOf "_law_word" "_law_word" (defArgs (top 6)) (defBody (top 6)) (defScope (top 6)) .none kV1 dc1 pm1 an1 cd1 ct1), sl1⟩) (c1 : PySem.W.codeIn K cd1 "_law_word" = true) (k1 : PySem.W.keepIn K (.ref f1) = true)
    (a2 : PySem.W.nsIn K mainGlobals "is_name" = some (some (.ref f2))) (l2 : K.lookup f2 = some ⟨oc2, od2, .func (PySem.W.fnOf "is_name" "is_name" (defArgs (top 3)) (defBody (top 3)) (defScope (top 3)) .none kV2 dc2 pm2 an2 cd2 ct2), sl2⟩) (c2 : PySem.W.codeIn K cd2 "is_name" = true) (k2 : PySem.W.keepIn K (.ref f2) = true)
    (a3 : PySem.W.nsIn K mainGlobals "_law_right" = some (some (.ref f3))) (l3 : K.lookup f3 = some ⟨oc3, od3, .func (PySem.W.fnOf "_law_right" "_law_right" (defArgs (top 8)) (defBody (top 8)) (defScope (top 8)) .none kV3 dc3 pm3 an3 cd3 ct3), sl3⟩) (c3 : PySem.W.codeIn K cd3 "_law_right" = true) (k3 : PySem.W.keepIn K (.ref f3) = true)
    (a4 : PySem.W.nsIn K mainGlobals "_law_spoilt" = some (some (.ref f4))) (l4 : K.lookup f4 = some ⟨oc4, od4, .func (PySem.W.fnOf "_law_spoilt" "_law_spoilt" (defArgs (top 7)) (defBody (top 7)) (defScope (top 7)) .none kV4 dc4 pm4 an4 cd4 ct4), sl4⟩) (c4 : PySem.W.codeIn K cd4 "_law_spoilt" = true) (k4 : PySem.W.keepIn K (.ref f4) = true)
    (a5 : PySem.W.nsIn K mainGlobals "law" = some (some (.ref f5))) (l5 : K.lookup f5 = some ⟨oc5, od5, .func (PySem.W.fnOf "law" "law" (defArgs (top 9)) (defBody (top 9)) (defScope (top 9)) .none kV5 dc5 pm5 an5 cd5 ct5), sl5⟩) (c5 : PySem.W.codeIn K cd5 "law" = true) (k5 : PySem.W.keepIn K (.ref f5) = true)
    (u0 : PySem.W.nsIn K mainGlobals "LONGEST_NAME" = some (some (.int (8) tk0)))
    (u1 : PySem.W.nsIn K mainGlobals "LETTERS" = some (some (.str "abcdefghijklmnopqrstuvwxyz" tk1)))
    (z0 : PySem.W.nsIn K mainGlobals "range" = some none)
    (z1 : PySem.W.nsIn K mainGlobals "all" = some none)
    (z2 : PySem.W.nsIn K mainGlobals "isinstance" = some none)
    (z3 : PySem.W.nsIn K mainGlobals "str" = some none)
    (z4 : PySem.W.nsIn K mainGlobals "len" = some none)
    (z5 : PySem.W.nsIn K mainGlobals "bool" = some none)
    (z6 : PySem.W.nsIn K mainGlobals "min" = some none)
    : ∃ fd : FuncData, (∀ (s : Shared) (v : Value), BindsTo s fd ⟨[v], []⟩ [("_law_script", v)]) ∧ ∀ base : Heap, K.In base → base.Ns mainGlobals mg → FnOk P w K mg base (L2.CX P w) 3 fa fd ["_law_script"] (spLaw 63) := by
  have e := hfa.symm.trans (PySem.W.mg_of X G a5)
  cases e
  have T0 := fun_mk (st := top 5) l0 c0 k0
  have b0 := T0.binds (ps := ["_law_cell", "_law_k"]) fun _ _ _ _ _ _ us hl => match us, hl with | [_, _], _ => rfl
  have T1 := fun_mk (st := top 6) l1 c1 k1
  have b1 := T1.binds (ps := ["_law_cell", "_law_k"]) fun _ _ _ _ _ _ us hl => match us, hl with | [_, _], _ => rfl
  have T2 := fun_mk (st := top 3) l2 c2 k2
  have b2 := T2.binds (ps := ["thing"]) fun _ _ _ _ _ _ us hl => match us, hl with | [_], _ => rfl
  have T3 := fun_mk (st := top 8) l3 c3 k3
  have b3 := T3.binds (ps := ["_law_thing", "_law_due"]) fun _ _ _ _ _ _ us hl => match us, hl with | [_, _], _ => rfl
  have T4 := fun_mk (st := top 7) l4 c4 k4
  have b4 := T4.binds (ps := ["_law_word_here", "_law_number"]) fun _ _ _ _ _ _ us hl => match us, hl with | [_, _], _ => rfl
  have T5 := fun_mk (st := top 9) l5 c5 k5
  have b5 := T5.binds (ps := ["_law_script"]) fun _ _ _ _ _ _ us hl => match us, hl with | [_], _ => rfl
  refine ⟨PySem.W.fnOf "law" "law" (defArgs (top 9)) (defBody (top 9)) (defScope (top 9)) .none kV5 dc5 pm5 an5 cd5 ct5, fun s v => .of_eq rfl, fun base _ _ => ?_⟩
  have F0 : FnOk P w K mg base (L2.CX P w) 1 f0 (PySem.W.fnOf "_law_mixed" "_law_mixed" (defArgs (top 5)) (defBody (top 5)) (defScope (top 5)) .none kV0 dc0 pm0 an0 cd0 ct0) ["_law_cell", "_law_k"] (spF K mg 2 F_law_mixed) := by
    refine def_ok (cf := cf_law_mixed) (s := ⟨4, []⟩) (k := 0) 40 e_law_mixed T0 s_law_mixed rfl ⟨fun i x h => ?_, fun x c h => ?_, fun x h => ?_⟩ (by decide) rfl
    · match i, h with
      | n + 0, h => cases h
    · have h := lookup_mem h
      cases h
    · cases h
  have F1 : FnOk P w K mg base (L2.CX P w) 2 f1 (PySem.W.fnOf "_law_word" "_law_word" (defArgs (top 6)) (defBody (top 6)) (defScope (top 6)) .none kV1 dc1 pm1 an1 cd1 ct1) ["_law_cell", "_law_k"] (spF K mg 2 F_law_word) := by
    refine def_ok (cf := cf_law_word) (s := ⟨6, [(2, F_law_mixed)]⟩) (k := 1) 40 e_law_word T1 s_law_word rfl ⟨fun i x h => ?_, fun x c h => ?_, fun x h => ?_⟩ (by decide) rfl
    · match i, h with
      | 0, h => cases h; exact ⟨_, _, rfl, fn_mk (F0.mono (by decide)) (PySem.W.mg_of X G a0) k0 b0⟩
      | n + 1, h => cases h
    · have h := lookup_mem h
      cases h
    · simp only [cf_law_word, List.mem_cons, List.not_mem_nil, or_false] at h
      rcases h with rfl
      · exact PySem.W.mg_none_of X G z0
  have F2 : FnOk P w K mg base (L2.CX P w) 1 f2 (PySem.W.fnOf "is_name" "is_name" (defArgs (top 3)) (defBody (top 3)) (defScope (top 3)) .none kV2 dc2 pm2 an2 cd2 ct2) ["thing"] (spF K mg 1 F_is_name) := by
    refine def_ok (cf := cf_is_name) (s := ⟨1, []⟩) (k := 0) 40 e_is_name T2 s_is_name rfl ⟨fun i x h => ?_, fun x c h => ?_, fun x h => ?_⟩ (by decide) rfl
    · match i, h with
      | n + 0, h => cases h
    · have h := lookup_mem h
      simp only [cf_is_name, List.mem_cons, List.not_mem_nil, or_false, Prod.mk.injEq] at h
      rcases h with ⟨rfl, rfl⟩ | ⟨rfl, rfl⟩
      · exact ⟨V.int (8), _, rfl, PySem.W.mg_of X G u0, ⟨tk0, rfl⟩⟩
      · exact ⟨V.str "abcdefghijklmnopqrstuvwxyz", _, rfl, PySem.W.mg_of X G u1, ⟨tk1, rfl⟩⟩
    · simp only [cf_is_name, List.mem_cons, List.not_mem_nil, or_false] at h
      rcases h with rfl | rfl | rfl | rfl
      · exact PySem.W.mg_none_of X G z1
      · exact PySem.W.mg_none_of X G z2
      · exact PySem.W.mg_none_of X G z3
      · exact PySem.W.mg_none_of X G z4
  have F3 : FnOk P w K mg base (L2.CX P w) 2 f3 (PySem.W.fnOf "_law_right" "_law_right" (defArgs (top 8)) (defBody (top 8)) (defScope (top 8)) .none kV3 dc3 pm3 an3 cd3 ct3) ["_law_thing", "_law_due"] (spF K mg 2 F_law_right) := by
    refine def_ok (cf := cf_law_right) (s := ⟨3, [(1, F_is_name)]⟩) (k := 1) 40 e_law_right T3 s_law_right rfl ⟨fun i x h => ?_, fun x c h => ?_, fun x h => ?_⟩ (by decide) rfl
    · match i, h with
      | 0, h => cases h; exact ⟨_, _, rfl, fn_mk (F2.mono (by decide)) (PySem.W.mg_of X G a2) k2 b2⟩
      | n + 1, h => cases h
    · have h := lookup_mem h
      cases h
    · simp only [cf_law_right, List.mem_cons, List.not_mem_nil, or_false] at h
      rcases h with rfl | rfl
      · exact PySem.W.mg_none_of X G z2
      · exact PySem.W.mg_none_of X G z5
  have F4 : FnOk P w K mg base (L2.CX P w) 1 f4 (PySem.W.fnOf "_law_spoilt" "_law_spoilt" (defArgs (top 7)) (defBody (top 7)) (defScope (top 7)) .none kV4 dc4 pm4 an4 cd4 ct4) ["_law_word_here", "_law_number"] (spF K mg 2 F_law_spoilt) := by
    refine def_ok (cf := cf_law_spoilt) (s := ⟨3, []⟩) (k := 0) 40 e_law_spoilt T4 s_law_spoilt rfl ⟨fun i x h => ?_, fun x c h => ?_, fun x h => ?_⟩ (by decide) rfl
    · match i, h with
      | n + 0, h => cases h
    · have h := lookup_mem h
      cases h
    · simp only [cf_law_spoilt, List.mem_cons, List.not_mem_nil, or_false] at h
      rcases h with rfl
      · exact PySem.W.mg_none_of X G z4
  have F5 : FnOk P w K mg base (L2.CX P w) 3 fa (PySem.W.fnOf "law" "law" (defArgs (top 9)) (defBody (top 9)) (defScope (top 9)) .none kV5 dc5 pm5 an5 cd5 ct5) ["_law_script"] (spF K mg 1 F_law) := by
    refine def_ok (cf := cf_law) (s := ⟨5, [(2, F_law_word), (2, F_law_mixed), (2, F_law_right), (2, F_law_spoilt)]⟩) (k := 2) 40 e_law T5 s_law rfl ⟨fun i x h => ?_, fun x c h => ?_, fun x h => ?_⟩ (by decide) rfl
    · match i, h with
      | 0, h => cases h; exact ⟨_, _, rfl, fn_mk (F1.mono (by decide)) (PySem.W.mg_of X G a1) k1 b1⟩
      | 1, h => cases h; exact ⟨_, _, rfl, fn_mk (F0.mono (by decide)) (PySem.W.mg_of X G a0) k0 b0⟩
      | 2, h => cases h; exact ⟨_, _, rfl, fn_mk (F3.mono (by decide)) (PySem.W.mg_of X G a3) k3 b3⟩
      | 3, h => cases h; exact ⟨_, _, rfl, fn_mk (F4.mono (by decide)) (PySem.W.mg_of X G a4) k4 b4⟩
      | n + 4, h => cases h
    · have h := lookup_mem h
      cases h
    · simp only [cf_law, List.mem_cons, List.not_mem_nil, or_false] at h
      rcases h with rfl | rfl | rfl
      · exact PySem.W.mg_none_of X G z0
      · exact PySem.W.mg_none_of X G z6
      · exact PySem.W.mg_none_of X G z4
  exact law_imp F5 fun ns hl hb => law_ok ns hl
end L
open PySem PySem.W PyProof.Rows
set_option maxRecDepth 100000 in
set_option maxHeartbeats 0 in
theorem PySem.Challenge.cw_digbook_k01_names_holds : PySem.Challenge.rw_digbook_k01_names.Holds := by
  w_on; o_law; k_head; (case hw => w_witness2)
  k_fill
  refine DG.walk (l := PySem.Challenge.rw_digbook_k01_names) (n := 63) (k := 3) (x := "_law_script") rfl (by decide) rfl ⟨rfl, by decide, by decide⟩ (fun w h Y => PySem.W.kIn_of Y) (fun w => ?NL) ?F
  case NL => rfl
  case F =>
    intro w mg fa h KX G hmg
    refine' L.all_mk KX G hmg ?a0 ?l0 ?c0 ?k0 ?a1 ?l1 ?c1 ?k1 ?a2 ?l2 ?c2 ?k2 ?a3 ?l3 ?c3 ?k3 ?a4 ?l4 ?c4 ?k4 ?a5 ?l5 ?c5 ?k5 ?u0 ?u1 ?z0 ?z1 ?z2 ?z3 ?z4 ?z5 ?z6
    (case a0 => k_is)
    (case l0 => k_is)
    (case c0 => k_is)
    (case k0 => k_is)
    (case a1 => k_is)
    (case l1 => k_is)
    (case c1 => k_is)
    (case k1 => k_is)
    (case a2 => k_is)
    (case l2 => k_is)
    (case c2 => k_is)
    (case k2 => k_is)
    (case a3 => k_is)
    (case l3 => k_is)
    (case c3 => k_is)
    (case k3 => k_is)
    (case a4 => k_is)
    (case l4 => k_is)
    (case c4 => k_is)
    (case k4 => k_is)
    (case a5 => k_is)
    (case l5 => k_is)
    (case c5 => k_is)
    (case k5 => k_is)
    (case u0 => k_is)
    (case u1 => k_is)
    (case z0 => k_is)
    (case z1 => k_is)
    (case z2 => k_is)
    (case z3 => k_is)
    (case z4 => k_is)
    (case z5 => k_is)
    (case z6 => k_is)

